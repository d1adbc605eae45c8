import PyProof.Rows.All
import Wide.All
import OpenK.AllK
import Wide.FinOn
import HandS.ForMost
import HandS.Exc
import HandS.GenList
import HandS.Nested
import KE.KExcSuper
import HandS.ExcSuper
import PyProof.Conv_bool
import PyProof.ListNew
import HandS.ClsMeth
import HandS.WordsExc
import HandS.More
import HandS.Defaults
import HandS.IsInst
import HandS.HeadHook1
import HandS.HeadHook2
import HandS.Star
import HandS.Codes
import HandS.ExcIs
import KE.KSuperObj
import HandS.TupAny
import HandS.TupMul
import HandS.Conv
import HandS.RaiseMore
import KE.KExcIs
import HandS.Lambda
import HandS.HeadHook4
import HandS.HeadWalk
import KE.KStateDown
import HandS.Base
import HandS.Head0
import HandS.Head1
import HandS.Head2
import HandS.HeadEnd
import PySem.Challenge.RW_freetakes_k30_whole_least_leaves
set_option Elab.async false
set_option linter.all false
set_option maxRecDepth 100000
set_option maxHeartbeats 0
/-! The mathematics: no program in sight. w: worths of all heaps; t size, r rest, m modulus. -/
namespace FTM
/-- the rule that takes t stands at n (leave 0) and keeps the worth -/
def Bar (w : Nat → Int) (t r m n : Nat) : Prop := t ≤ n ∧ n % m = r ∧ w (n - t) = w n
/-- the worths come again by q from b on -/
structure Rep (w : Nat → Int) (b q : Nat) : Prop where
  pos : 0 < q
  rep : ∀ n, b ≤ n → w (n + q) = w n
/-- the least leave -/
def IsLeave (w : Nat → Int) (t r m : Nat) : Option Nat → Prop
  | none => ∀ N, ∃ n, N ≤ n ∧ Bar w t r m n
  | some k => (∀ n, Bar w t r m n → n + 1 ≤ k + t) ∧ (k = 0 ∨ Bar w t r m (k - 1 + t))
theorem IsLeave.uniq {w : Nat → Int} {t r m : Nat} {a b : Option Nat} (ha : IsLeave w t r m a) (hb : IsLeave w t r m b) : a = b := by
  cases a with
  | none =>
    cases b with
    | none => rfl
    | some k =>
      obtain ⟨n, h1, h2⟩ := ha (k + t)
      have h3 := hb.1 n h2
      omega
  | some j =>
    cases b with
    | none =>
      obtain ⟨n, h1, h2⟩ := hb (j + t)
      have h3 := ha.1 n h2
      omega
    | some k =>
      obtain ⟨a1, a2⟩ := ha
      obtain ⟨b1, b2⟩ := hb
      have h1 : j ≤ k := by
        rcases a2 with e | e
        · omega
        · have := b1 _ e; omega
      have h2 : k ≤ j := by
        rcases b2 with e | e
        · omega
        · have := a1 _ e; omega
      congr 1
      omega
theorem Rep.mul {w : Nat → Int} {b q : Nat} (R : Rep w b q) (n : Nat) (hn : b ≤ n) : ∀ c, w (n + c * q) = w n
  | 0 => by rw [Nat.zero_mul, Nat.add_zero]
  | c + 1 => by
    rw [Nat.succ_mul, ← Nat.add_assoc, R.rep _ (by omega)]
    exact R.mul n hn c
theorem Rep.dvd {w : Nat → Int} {b q L : Nat} (R : Rep w b q) (hL : L % q = 0) (n : Nat) (hn : b ≤ n) : w (n + L) = w n := by
  have e : L = L / q * q := by
    have := Nat.div_add_mod L q
    rw [hL, Nat.add_zero, Nat.mul_comm] at this
    exact this.symm
  rw [e]
  exact R.mul n hn _
theorem add_mod_of {n L m : Nat} (h : L % m = 0) : (n + L) % m = n % m := by
  rw [Nat.add_mod, h, Nat.add_zero, Nat.mod_mod]
/-- bars come again by L from b + t on -/
theorem bar_step {w : Nat → Int} {t r m b q L : Nat} (R : Rep w b q) (h1 : L % q = 0) (h2 : L % m = 0) {n : Nat} (hn : b + t ≤ n) : Bar w t r m (n + L) ↔ Bar w t r m n := by
  have e1 : w (n + L) = w n := R.dvd h1 n (by omega)
  have e2 : n + L - t = (n - t) + L := by omega
  have e3 : w (n - t + L) = w (n - t) := R.dvd h1 _ (by omega)
  unfold Bar
  rw [e2, e1, e3, add_mod_of h2]
  constructor
  · rintro ⟨a, b, c⟩; exact ⟨by omega, b, c⟩
  · rintro ⟨a, b, c⟩; exact ⟨by omega, b, c⟩
theorem bar_many {w : Nat → Int} {t r m b q L : Nat} (R : Rep w b q) (h1 : L % q = 0) (h2 : L % m = 0) {n : Nat} (hn : b + t ≤ n) : ∀ c, Bar w t r m (n + c * L) ↔ Bar w t r m n
  | 0 => by rw [Nat.zero_mul, Nat.add_zero]
  | c + 1 => by
    rw [Nat.succ_mul, ← Nat.add_assoc, bar_step R h1 h2 (by omega)]
    exact bar_many R h1 h2 hn c
/-- one bar from b + t on: bars without end -/
theorem bar_inf {w : Nat → Int} {t r m b q L : Nat} (R : Rep w b q) (h1 : L % q = 0) (h2 : L % m = 0) (h0 : 0 < L) {n : Nat} (hn : b + t ≤ n) (h : Bar w t r m n) : ∀ N, ∃ k, N ≤ k ∧ Bar w t r m k := fun N =>
  ⟨n + N * L, by have : N * 1 ≤ N * L := Nat.mul_le_mul_left N h0; omega, (bar_many R h1 h2 hn N).mpr h⟩
/-- a bar anywhere from S on: one in S .. S + L -/
theorem bar_down {w : Nat → Int} {t r m b q L : Nat} (R : Rep w b q) (h1 : L % q = 0) (h2 : L % m = 0) (h0 : 0 < L) {S : Nat} (hS : b + t ≤ S) {n : Nat} (hn : S ≤ n) (h : Bar w t r m n) : ∃ k, S ≤ k ∧ k < S + L ∧ Bar w t r m k := by
  refine ⟨S + (n - S) % L, by omega, by have := Nat.mod_lt (n - S) h0; omega, ?_⟩
  have e : n = (S + (n - S) % L) + (n - S) / L * L := by
    have := Nat.div_add_mod (n - S) L
    rw [Nat.mul_comm] at this
    omega
  rw [e] at h
  exact (bar_many R h1 h2 (by omega) _).mp h
theorem no_bar_of {w : Nat → Int} {t r m b q L : Nat} (R : Rep w b q) (h1 : L % q = 0) (h2 : L % m = 0) (h0 : 0 < L) {S : Nat} (hS : b + t ≤ S) (h : ∀ k, S ≤ k → k < S + L → ¬ Bar w t r m k) : ∀ n, S ≤ n → ¬ Bar w t r m n := fun n hn hb => by
  obtain ⟨k, a, b, c⟩ := bar_down R h1 h2 h0 hS hn hb
  exact h k a b c
/-- free with a leave k -/
def FreeAt (w : Nat → Int) (t r m k : Nat) : Prop := ∀ n, t + k ≤ n → ¬ Bar w t r m n
theorem IsLeave.free {w : Nat → Int} {t r m k : Nat} (h : IsLeave w t r m (some k)) : FreeAt w t r m k := fun n hn hb => by
  have := h.1 n hb
  omega
theorem IsLeave.barred {w : Nat → Int} {t r m k : Nat} (h : IsLeave w t r m (some k)) (hk : 0 < k) : ¬ FreeAt w t r m (k - 1) := fun hf => by
  rcases h.2 with e | e
  · omega
  · exact hf _ (by omega) e
theorem IsLeave.never {w : Nat → Int} {t r m : Nat} (h : IsLeave w t r m none) (k : Nat) : ¬ FreeAt w t r m k := fun hf => by
  obtain ⟨n, h1, h2⟩ := h (t + k)
  exact hf n h1 h2
/-! ### rows -/
/-- the worth of a heap by a row: a worths ahead, p that come again -/
def tw (row : List Int) (a p : Nat) (n : Nat) : Int := row.getD (if n < a then n else a + (n - a) % p) 0
theorem tw_rep (row : List Int) (a p : Nat) (hp : 0 < p) : Rep (tw row a p) a p where
  pos := hp
  rep := fun n hn => by
    unfold tw
    rw [if_neg (by omega), if_neg (by omega)]
    have e : n + p - a = (n - a) + p := by omega
    rw [e, Nat.add_mod_right]
theorem bar_congr {w w' : Nat → Int} (e : ∀ n, w n = w' n) {t r m n : Nat} : Bar w t r m n ↔ Bar w' t r m n := by
  unfold Bar
  rw [e, e]
end FTM
/-! Generators that a for walks: the body's rules. A generator hands out while its consumer's frame (at L) changes; what stood at its call stands still but that frame. -/
namespace FTG
open PySem PySem.Spec PyProof.Rows L2 GenW
/-- the context with another entry -/
abbrev at0 (X : Cx) (s0 : Shared) : Cx := { X with s_0 := s0 }
/-- the state of the call, the consumer's frame as it stands in s -/
def fic (sc : Shared) (L : Addr) (s : Shared) : Shared := { sc with heap := sc.heap.update L fun _ => (s.heap.get? L).getD default }
section
variable {sc s : Shared} {L b : Addr} {o o0 : Obj}
theorem fic_ne (h : b ≠ L) : (fic sc L s).heap.get? b = sc.heap.get? b := Heap.get?_update_other _ _ (Ne.symm h)
theorem fic_size : (fic sc L s).heap.objs.size = sc.heap.objs.size := Heap.size_after_update ..
theorem fic_at (h0 : sc.heap.get? L = some o0) (h : s.heap.get? L = some o) : (fic sc L s).heap.get? L = some o := by
  have e := Heap.get?_update_self (fun _ => (s.heap.get? L).getD default) h0 (by rw [h]; exact (Heap.get?_some_iff.mp h).2)
  exact e.trans (by rw [h]; rfl)
end
/-- while the generator sleeps: the consumer's frame alone may change -/
structure Slp (L : Addr) (s s' : Shared) : Prop where
  os : s'.os = s.os
  bare : AllBare s'.gens
  keep : ∀ b o, b ≠ L → s.heap.get? b = some o → s'.heap.get? b = some o
  ns : ∃ m, s'.heap.Ns L m
/-- the generator's context, its call's state, the consumer's frame, the most items, what holds of the j-th item, whether a next one may be asked for -/
structure GP where
  X : Cx
  sc : Shared
  L : Addr
  N : Nat
  Y : Nat → V → Hp → Prop
  More : Nat → V → Prop
abbrev GP.at (G : GP) (s : Shared) : Cx := at0 G.X (fic G.sc G.L s)
structure GP.Ok (G : GP) : Prop where
  nox : ∀ e s, ¬ G.X.xe e s
  fn : ∀ x, G.X.fn x = true
  hL : G.L ∈ G.X.fs
  sc : ∃ o, G.sc.heap.get? G.L = some o
abbrev GI2 (G : GP) (s₀ : Shared) (ip : List (Addr × Obj)) (σ : L2.St) (H : Hp) (s : Shared) : Prop := Inv (G.at s₀) ip σ H s
/-- a state like the call's, but for the consumer's frame -/
structure Lik (sc : Shared) (L : Addr) (s0 : Shared) : Prop where
  get : ∀ b, b ≠ L → s0.heap.get? b = sc.heap.get? b
  size : s0.heap.objs.size = sc.heap.objs.size
  os : s0.os = sc.os
theorem Lik.self {sc : Shared} {L : Addr} : Lik sc L sc := ⟨fun _ _ => rfl, rfl, rfl⟩
theorem Lik.fic {sc : Shared} {L : Addr} {s : Shared} : Lik sc L (fic sc L s) := ⟨fun _ h => fic_ne h, fic_size, rfl⟩
theorem GP.Ok.freeL {G : GP} (K : G.Ok) {s0 s : Shared} {ip : List (Addr × Obj)} {σ : L2.St} {H : Hp} (lk : Lik G.sc G.L s0) (I : Inv (at0 G.X s0) ip σ H s) : H G.L = none ∧ G.L ∉ G.X.ex ∧ G.L < G.sc.heap.objs.size := by
  have hex : G.L ∉ G.X.ex := fun z => I.ok.exfs G.L z K.hL
  obtain ⟨_, o, ho, _⟩ := I.ok.funs.mem (show G.L ∈ frs G.X.outer from K.hL)
  refine ⟨I.base.free G.L o ho (I.ok.frf G.L K.hL) hex, hex, ?_⟩
  have h := Heap.lt_size ho
  rw [← lk.size]; exact h
/-- woken again -/
theorem inv_woken {G : GP} (K : G.Ok) {s0 s s' : Shared} {ip : List (Addr × Obj)} {σ : L2.St} {H : Hp} (lk : Lik G.sc G.L s0) (I : Inv (at0 G.X s0) ip σ H s) (z : Slp G.L s s') : GI2 G s' ip σ H s' := by
  obtain ⟨hHL, hex, hlt⟩ := K.freeL lk I
  obtain ⟨o0, h0⟩ := K.sc
  obtain ⟨m', oL, es, ep, hoL, hdL, hkL⟩ := z.ns
  have hat : (fic G.sc G.L s').heap.get? G.L = some oL := fic_at h0 hoL
  have sz : (fic G.sc G.L s').heap.objs.size = s0.heap.objs.size := fic_size.trans lk.size.symm
  have ne2 : ∀ b o, b ≠ G.L → (fic G.sc G.L s').heap.get? b = some o → s0.heap.get? b = some o := fun b o hb e => by
    rw [fic_ne hb] at e; rw [lk.get b hb]; exact e
  have old : ∀ b o, (fic G.sc G.L s').heap.get? b = some o → ∃ o1, s0.heap.get? b = some o1 := fun b o e => by
    by_cases hb : b = G.L
    · obtain ⟨_, o1, ho1, _⟩ := I.ok.funs.mem (show G.L ∈ frs G.X.outer from K.hL)
      exact ⟨o1, by rw [hb]; exact ho1⟩
    · exact ⟨o, ne2 b o hb e⟩
  have neLoc : G.X.env.locals ≠ G.L := by
    have h : s0.heap.objs.size ≤ G.X.env.locals := I.ok.above
    have e : s0.heap.objs.size = G.sc.heap.objs.size := lk.size
    intro q
    rw [q, e] at h
    exact absurd hlt (Nat.not_lt.mpr h)
  have neCell : ∀ x c, G.X.env.cells.lookup x = some c → c ≠ G.L := fun x c e q => by
    have h : s0.heap.objs.size ≤ c := I.ok.cab x c (K.fn x) e
    have e2 : s0.heap.objs.size = G.sc.heap.objs.size := lk.size
    rw [q, e2] at h
    exact absurd hlt (Nat.not_lt.mpr h)
  have baseL : G.X.base.get? G.L = none := (I.ok.funs.mem (show G.L ∈ frs G.X.outer from K.hL)).1
  have frames : ∀ l : List Env, s0.heap.FunFrames G.X.base l → (fic G.sc G.L s').heap.FunFrames G.X.base l := by
    intro l
    induction l with
    | nil => intro _; trivial
    | cons env r ih =>
      intro hl
      obtain ⟨hk, ⟨L1, o, hf, hn, ho, hd⟩, hr⟩ := hl
      refine ⟨hk, ?_, ih hr⟩
      by_cases hb : L1 = G.L
      · refine ⟨L1, oL, hf, hn, by rw [hb]; exact hat, fun vs q => ?_⟩
        rw [hdL] at q; cases q
      · exact ⟨L1, o, hf, hn, by rw [fic_ne hb]; rw [lk.get L1 hb] at ho; exact ho, hd⟩
  have cellK : ∀ x c, G.X.env.cells.lookup x = some c → ∀ v, s.heap.IsCell c v → s'.heap.IsCell c v := fun x c e v ⟨o, ho, hd⟩ => ⟨o, z.keep c o (neCell x c e) ho, hd⟩
  refine ⟨⟨I.ok.mod, I.ok.kind, I.ok.glob, I.ok.blt, ?_, I.ok.inj, I.ok.has, fun x c h1 h2 => ?_, I.ok.hd, I.ok.frames, I.ok.stk, I.ok.exf, fun b o e => ?_, ?_, I.ok.noex, I.ok.exfs, frames _ I.ok.funs, I.ok.frf⟩,
    z.os.trans (I.os.trans lk.os), z.bare, ⟨fun b o e n hb hx => ?_, fun b o e n hb hx => ?_, fun b o e n hx => ?_, fun b o e hx => ?_, I.base.tups, I.base.frzs, I.base.tbls⟩, ?_, fun x c e => ?_, I.free, I.freeC, fun p hp => ?_, fun a o e => ?_, I.len⟩
  · show (fic G.sc G.L s').heap.objs.size ≤ _
    rw [sz]; exact I.ok.above
  · show (fic G.sc G.L s').heap.objs.size ≤ _
    rw [sz]; exact I.ok.cab x c h1 h2
  · have hb : b ≠ G.L := fun q => by
      have e' : G.X.base.get? b = some o := e
      rw [q, baseL] at e'; cases e'
    refine ⟨?_, (I.ok.bs b o e).2⟩
    have h := (I.ok.bs b o e).1
    show (fic G.sc G.L s').heap.get? b = some o
    have h' : s0.heap.get? b = some o := h
    rw [fic_ne hb]; rw [lk.get b hb] at h'; exact h'
  · show _ ≤ (fic G.sc G.L s').heap.objs.size
    rw [sz]; exact I.ok.bsz
  · have hne : b ≠ G.L := fun q => hb (by rw [q]; exact K.hL)
    exact z.keep b o hne (I.base.keep b o (ne2 b o hne e) n hb hx)
  · by_cases hbL : b = G.L
    · have e' : (fic G.sc G.L s').heap.get? b = some o := e
      rw [hbL, hat] at e'; cases e'
      exact ⟨oL.slots, by rw [hbL]; exact hoL⟩
    · obtain ⟨sl, e1⟩ := I.base.slot b o (ne2 b o hbL e) n hb hx
      exact ⟨sl, z.keep b _ hbL e1⟩
  · obtain ⟨o1, e1⟩ := old b o e
    exact I.base.free b o1 e1 n hx
  · by_cases hbL : b = G.L
    · exact ⟨oL, by rw [hbL]; exact hoL⟩
    · obtain ⟨o', e1⟩ := I.base.there b o (ne2 b o hbL e) hx
      exact ⟨o', z.keep b o' hbL e1⟩
  · obtain ⟨m, hn, hl⟩ := I.loc
    refine ⟨m, hn.at fun o e => z.keep _ o neLoc e, fun i x v e1 e2 e3 => ?_⟩
    obtain ⟨u, r, l⟩ := hl i x v e1 e2 e3
    refine ⟨u, r, ?_⟩
    rcases l with l | ⟨k, c, e, y⟩
    · exact .inl l
    · exact .inr ⟨k, c, e, cellK x c e _ y⟩
  · obtain ⟨v, y⟩ := I.cell x c e
    exact ⟨v, cellK x c e v y⟩
  · obtain ⟨e, n, ne, nf, d⟩ := I.pin p hp
    exact ⟨z.keep p.1 p.2 (fun q => nf (by rw [q]; exact K.hL)) e, n, ne, nf, d⟩
  · have neT : ∀ b u, H b = some u → b ≠ G.L := fun b u q hb => by rw [hb, hHL] at q; cases q
    refine (I.hok a o e).stay (fun b u hb q => z.keep b u ?_ q) (fun _ q => q) fun _ _ q => q
    rcases hb with hb | hb
    · rw [hb]; exact neT a o e
    · exact neT b _ hb

theorem GI2.woken {G : GP} (K : G.Ok) {s₀ s s' : Shared} {ip : List (Addr × Obj)} {σ : L2.St} {H : Hp} (I : GI2 G s₀ ip σ H s) (z : Slp G.L s s') : GI2 G s' ip σ H s' := inv_woken K Lik.fic I z

/-! ### the judgement -/
/-- what is wanted behind a statement of a generator: by the number of items that are out -/
structure GE where
  nx : Nat → L2.St → Hp → Prop
  rt : Nat → VK
  bk : Nat → L2.St → Hp → Prop := fun _ _ _ => False
  ct : Nat → L2.St → Hp → Prop := fun _ _ _ => False
abbrev TGe := GE → Nat → L2.St → Hp → Prop
def GE.at (D : GE) (j : Nat) : Ends := { nx := D.nx j, rt := D.rt j, bk := D.bk j, ct := D.ct j }
def GY2 (G : GP) : Protocol := fun n s₀ v s kap =>
  ∃ j x ip σ H, n + 1 + j = G.N ∧ RelV x v ∧ GI2 G s₀ ip σ H s ∧ G.Y j x H ∧ (G.More j x → ∀ s', Slp G.L s s' → kap (.send .none) s')
def GSP2 (G : GP) (s₀ : Shared) (ip : List (Addr × Obj)) (D : GE) (j : Nat) (f : Flow) (s : Shared) : Prop :=
  match f with
  | .next => ∃ σ H, GI2 G s₀ ip σ H s ∧ D.nx j σ H
  | .brk => ∃ σ H, GI2 G s₀ ip σ H s ∧ D.bk j σ H
  | .cont => ∃ σ H, GI2 G s₀ ip σ H s ∧ D.ct j σ H
  | .ret u => ∃ v σ H, GI2 G s₀ ip σ H s ∧ RelV v u ∧ D.rt j v H
structure GC2 (G : GP) (A : Around) (c : Code) (fs : List Frame) (gd : Bool → Bool) : Prop where
  over : A.over c fs = G.X.A
  split : splitAtGen fs = none
  guard : fs.any Frame.guarded = false
  gd : gd false = false
abbrev GSeg (G : GP) (A : Around) (R : GenEnd) : Nat → Shared → Code → Sem PySem.Fin → List Frame → Shared → Prop := Seg (model G.X.prog G.X.w) A R (GY2 G)
def GK2 (G : GP) (ip : List (Addr × Obj)) (A : Around) (R : GenEnd) (c : Code) (fs : List Frame) (K : Flow → Sem PySem.Fin) (D : GE) : Prop :=
  ∀ (n j : Nat) (s₀ s : Shared) (f : Flow), n + j = G.N → GSP2 G s₀ ip D j f s → GSeg G A R n s₀ c (K f) fs s
structure GS2 (G : GP) (st : Stmt) (t : TGe) : Prop where
  run : ∀ (A : Around) (ip : List (Addr × Obj)) (R : GenEnd) (n j : Nat) (s₀ : Shared) (c : Code) (fs : List Frame) (K : Flow → Sem PySem.Fin) (J : Value → Sem PySem.Fin) (gd : Bool → Bool) (lv : List Value → List Value) (s : Shared) (σ : L2.St) (H : Hp) (D : GE),
    GC2 G A c fs gd → n + j = G.N → GK2 G ip A R c fs K D → GI2 G s₀ ip σ H s → t D j σ H → GSeg G A R n s₀ c ((exec st G.X.env).wrap K J gd lv) fs s
structure GSs2 (G : GP) (st : List Stmt) (t : TGe) : Prop where
  run : ∀ (A : Around) (ip : List (Addr × Obj)) (R : GenEnd) (n j : Nat) (s₀ : Shared) (c : Code) (fs : List Frame) (K : Flow → Sem PySem.Fin) (J : Value → Sem PySem.Fin) (gd : Bool → Bool) (lv : List Value → List Value) (s : Shared) (σ : L2.St) (H : Hp) (D : GE),
    GC2 G A c fs gd → n + j = G.N → GK2 G ip A R c fs K D → GI2 G s₀ ip σ H s → t D j σ H → GSeg G A R n s₀ c ((execs st G.X.env).wrap K J gd lv) fs s
section
variable {G : GP} {st : Stmt} {rest : List Stmt}
def tgP (t : TS) : TGe := fun D j σ H => t (D.at j) σ H
theorem sp_gsp2 {s₀ s : Shared} {ip : List (Addr × Obj)} {D : GE} {j : Nat} {f : Flow} (h : SP (G.at s₀) ip (D.at j) f s) : GSP2 G s₀ ip D j f s := by
  cases f with
  | next => exact h
  | brk => exact h
  | cont => exact h
  | ret u => exact h
theorem gs_plain {t : TS} (K : G.Ok) (h : ∀ s0, PS (at0 G.X s0) st t) : GS2 G st (tgP t) := by
  refine ⟨fun A ip R n j s₀ c fs Kf J gd lv s σ H D g hn k hI ht => ?_⟩
  refine seg_wrap ?_
  rw [g.over]
  exact wpAny_mono ((h (fic G.sc G.L s₀)).run ip s σ H (D.at j) hI ht) (fun f s' hs => k n j s₀ s' f hn (sp_gsp2 hs)) fun x s' hx => (K.nox x s' hx).elim
theorem gss_plain {t : TS} (K : G.Ok) (h : ∀ s0, PSs (at0 G.X s0) rest t) : GSs2 G rest (tgP t) := by
  refine ⟨fun A ip R n j s₀ c fs Kf J gd lv s σ H D g hn k hI ht => ?_⟩
  refine seg_wrap ?_
  rw [g.over]
  exact wpAny_mono ((h (fic G.sc G.L s₀)).run ip s σ H (D.at j) hI ht) (fun f s' hs => k n j s₀ s' f hn (sp_gsp2 hs)) fun x s' hx => (K.nox x s' hx).elim
def tgNil : TGe := fun D j σ H => D.nx j σ H
theorem gss_nil : GSs2 G [] tgNil := by
  refine ⟨fun A ip R n j s₀ c fs K J gd lv s σ H D g hn k hI ht => ?_⟩
  exact seg_execs_nil (k n j s₀ s .next hn ⟨σ, H, hI, ht⟩)
def tgSeq (t u : TGe) : TGe := fun D j σ H => t { D with nx := u D } j σ H
theorem gss_cons {t u : TGe} (a : GS2 G st t) (b : GSs2 G rest u) : GSs2 G (st :: rest) (tgSeq t u) := by
  refine ⟨fun A ip R n j s₀ c fs K J gd lv s σ H D g hn k hI ht => ?_⟩
  refine seg_execs_cons ?_
  refine a.run A ip R n j s₀ c fs _ J gd lv s σ H { D with nx := u D } g hn (fun n' j' s₀' s' f hn' hs => ?_) hI ht
  cases f with
  | next =>
    obtain ⟨σ', H', I', q⟩ := hs
    exact b.run A ip R n' j' s₀' c fs K J gd lv s' σ' H' D g hn' k I' q
  | brk => exact k n' j' s₀' s' .brk hn' hs
  | cont => exact k n' j' s₀' s' .cont hn' hs
  | ret u => exact k n' j' s₀' s' (.ret u) hn' hs
theorem gss_one {t : TGe} (a : GS2 G st t) : GSs2 G [st] t := by
  refine ⟨fun A ip R n j s₀ c fs K J gd lv s σ H D g hn k hI ht => ?_⟩
  refine seg_execs_cons ?_
  refine a.run A ip R n j s₀ c fs _ J gd lv s σ H D g hn (fun n' j' s₀' s' f hn' hs => ?_) hI ht
  cases f with
  | next => exact seg_execs_nil (k n' j' s₀' s' .next hn' hs)
  | brk => exact k n' j' s₀' s' .brk hn' hs
  | cont => exact k n' j' s₀' s' .cont hn' hs
  | ret u => exact k n' j' s₀' s' (.ret u) hn' hs
/-! ### if -/
def tgIf (c : TT) (t u : TGe) : TGe := fun D j σ H => c σ H fun b H1 => if b = true then t D j σ H1 else u D j σ H1
theorem gs_if {c : Expr} {a b : List Stmt} {pos : Pos} {tc : TT} {t u : TGe} (K : G.Ok) (hc : ∀ s0, PT (at0 G.X s0) c tc) (ha : GSs2 G a t) (hb : GSs2 G b u) : GS2 G (.If c a b pos) (tgIf tc t u) := by
  refine ⟨fun A ip R n j s₀ cd fs Kf J gd lv s σ H D g hn k hI ht => ?_⟩
  rw [exec_If]
  refine seg_bind_wrap (wpAny_standAt ?_)
  refine seg_bind_wrap ?_
  rw [g.over]
  refine wpAny_mono ((hc (fic G.sc G.L s₀)).run ip s σ H _ hI ht) (fun d s' ⟨H1, I1, q⟩ => ?_) fun x s' hx => (K.nox x s' hx).elim
  cases d with
  | true =>
    show GSeg G A R n s₀ cd ((if true = true then execs a G.X.env else execs b G.X.env).wrap Kf J gd lv) fs s'
    rw [if_pos rfl]
    exact ha.run A ip R n j s₀ cd fs Kf J gd lv s' σ H1 D g hn k I1 (by rw [if_pos rfl] at q; exact q)
  | false =>
    show GSeg G A R n s₀ cd ((if false = true then execs a G.X.env else execs b G.X.env).wrap Kf J gd lv) fs s'
    rw [if_neg Bool.false_ne_true]
    exact hb.run A ip R n j s₀ cd fs Kf J gd lv s' σ H1 D g hn k I1 (by rw [if_neg Bool.false_ne_true] at q; exact q)
/-! ### yield -/
def tgYield (G : GP) (te : TE) : TGe := fun D j σ H => j < G.N ∧ te σ H fun x H1 => G.Y j x H1 ∧ (G.More j x → D.nx (j + 1) σ H1)
theorem gs_yield {e : Expr} {yp pos : Pos} {te : TE} (K : G.Ok) (he : ∀ s0, PE (at0 G.X s0) e te) (hco : G.X.env.scope.isCoroutine = false := by rfl) (hi : interactive G.X.env = false := by rfl) : GS2 G (.Expr (.Yield (some e) yp) pos) (tgYield G te) := by
  refine ⟨fun A ip R n j s₀ c fs Kf J gd lv s σ H D g hn k hI ht => ?_⟩
  obtain ⟨hlt, ht⟩ := ht
  obtain ⟨n, rfl⟩ : ∃ m, n = m + 1 := ⟨n - 1, by omega⟩
  refine seg_Expr_Yield g.split g.gd g.guard ?_ hco hi
  rw [g.over]
  refine wpAny_mono ((he (fic G.sc G.L s₀)).run ip s σ H _ hI ht) (fun v s' hv => ?_) fun x s' hx => (K.nox x s' hx).elim
  obtain ⟨x, H1, I1, rv, hY, q⟩ := hv
  intro kap hk
  refine ⟨j, x, ip, σ, H1, hn, rv, I1, hY, fun hm s'' z => hk .none s'' ?_⟩
  exact k n (j + 1) s'' s'' .next (by omega) ⟨σ, H1, GI2.woken K I1 z, q hm⟩
end
end FTG
/-! Loops in a generator's body. -/
namespace FTG
open PySem PySem.Spec PyProof.Rows L2 GenW
theorem gc_loop2 {G : GP} {A : Around} {c c' : Code} {fs : List Frame} {gd : Bool → Bool} {k : Result → Sem PySem.Fin} {l kp : List Value} {p : Pos} (g : GC2 G A c fs gd) (hw : c'.weight = 0) (hu : c'.cUnits = 0) :
    GC2 G A c' (.ret k none (gd false) l c p kp :: fs) id where
  over := (over_loop hw hu).trans g.over
  split := by
    show (splitAtGen fs).map _ = none
    rw [g.split]; rfl
  guard := by
    show (gd false || fs.any Frame.guarded) = false
    rw [g.gd, g.guard]; rfl
  gd := rfl
theorem seg_runOwn2 {M : Model} {A : Around} {R : GenEnd} {Y : Protocol} {n : Nat} {s₀ : Shared} {c c' : Code} {fs : List Frame} {s : Shared} {env : Env} {K : Flow → Sem PySem.Fin} {J : Value → Sem PySem.Fin} {gd : Bool → Bool} {lv : List Value → List Value}
    (h : ∀ p, Seg M A R Y n s₀ c' (M.den c') (.ret (fun r => ((match r with | .ok f => (.pure f : Sem Flow) | .error e => .raise e).onRaise (cameBack env)).wrap K J gd lv) none (gd false) (lv []) c p [] :: fs) s) :
    Seg M A R Y n s₀ c ((runOwn c' env).wrap K J gd lv) fs s := seg_call h
theorem fp_at {G : GP} {s₀ s₁ : Shared} {ip : List (Addr × Obj)} {H : Hp} {b : Addr} (h : FpOk (G.at s₀) ip H b) : FpOk (G.at s₁) ip H b := by
  obtain ⟨a1, a2, a3, a4, a5, a6⟩ := h
  refine ⟨a1, a2, a3, ?_, a5, a6⟩
  rcases a4 with z | z
  · exact .inl z
  · refine .inr ?_
    have z' : (fic G.sc G.L s₀).heap.objs.size ≤ b := z
    show (fic G.sc G.L s₁).heap.objs.size ≤ b
    rw [fic_size] at z' ⊢; exact z'
section
variable {G : GP}
def tgWhile (c : TT) (tb : TGe) : TGe := fun D j σ H => ∃ W : Nat → Nat → L2.St → Hp → Prop, (∃ m, W m j σ H) ∧ ∀ m j σ H, W m j σ H →
  c σ H fun b H1 => if b = true then ∃ N : Nat → L2.St → Hp → Prop, (∀ j' σ' H', N j' σ' H' → ∃ m', m' < m ∧ W m' j' σ' H') ∧ tb { D with nx := N, ct := N, bk := D.nx } j σ H1 else D.nx j σ H1
theorem gs_while2 {test : Expr} {body : List Stmt} {pos : Pos} {tc : TT} {tb : TGe} (K : G.Ok) (hc : ∀ s0, PT (at0 G.X s0) test tc) (hb : GSs2 G body tb) : GS2 G (.While test body [] pos) (tgWhile tc tb) := by
  refine ⟨fun A ip R n j s₀ c fs Kf J gd lv s σ H D g hn k hI ht => ?_⟩
  obtain ⟨W, ⟨m0, w0⟩, turn⟩ := ht
  refine seg_While fun p => ?_
  have gl := fun (kk : Result → Sem PySem.Fin) => gc_loop2 (k := kk) (c' := .whileLoop test body [] G.X.env) (l := lv []) (kp := []) (p := p) g rfl rfl
  have loop : ∀ (m n j : Nat) (s₀ s : Shared) (σ : L2.St) (H : Hp), n + j = G.N → W m j σ H → GI2 G s₀ ip σ H s →
      GSeg G A R n s₀ (.whileLoop test body [] G.X.env) ((model G.X.prog G.X.w).den (.whileLoop test body [] G.X.env))
        (.ret (fun r => ((match r with | .ok f => (.pure f : Sem Flow) | .error e => .raise e).onRaise (cameBack G.X.env)).wrap Kf J gd lv) none (gd false) (lv []) c p [] :: fs) s := by
    intro m
    induction m using Nat.strongRecOn with
    | ind m ih =>
      intro n j s₀ s σ H hn w hI
      refine seg_whileLoop ?_
      rw [(gl _).over]
      refine wpAny_mono ((hc (fic G.sc G.L s₀)).run ip s σ H _ hI (turn m j σ H w)) (fun b s' hb' => ?_) fun x s' hx => (K.nox x s' hx).elim
      obtain ⟨H2, I2, q2⟩ := hb'
      cases b with
      | true =>
        obtain ⟨N, hN, q2⟩ := q2
        rw [if_pos rfl]
        refine hb.run A ip R n j s₀ _ _ _ _ id id s' σ H2 { D with nx := N, ct := N, bk := D.nx } (gl _) hn (fun n' j' s₀' s3 f hn' hs => ?_) I2 q2
        cases f with
        | next =>
          obtain ⟨σ3, H3, I3, n3⟩ := hs
          obtain ⟨m', hm, w3⟩ := hN j' σ3 H3 n3
          exact seg_again rfl (ih m' hm n' j' s₀' s3 σ3 H3 hn' w3 I3)
        | cont =>
          obtain ⟨σ3, H3, I3, n3⟩ := hs
          obtain ⟨m', hm, w3⟩ := hN j' σ3 H3 n3
          exact seg_again rfl (ih m' hm n' j' s₀' s3 σ3 H3 hn' w3 I3)
        | brk => exact seg_leaf (.ok .next) (k n' j' s₀' s3 .next hn' hs)
        | ret v => exact seg_leaf (.ok (.ret v)) (k n' j' s₀' s3 (.ret v) hn' hs)
      | false =>
        rw [if_neg Bool.false_ne_true]
        refine seg_execs_nil ?_
        exact seg_leaf (.ok .next) (k n j s₀ s' .next hn ⟨σ, H2, I2, q2⟩)
  exact loop m0 n j s₀ s σ H hn w0 hI
/-! ### for -/
def tgFor (wi : TI) (g : TG) (tb : TGe) : TGe := fun D j σ H => wi σ H fun Jt H1 => ∃ W : Nat → Nat → Nat → L2.St → Hp → Prop, (∃ m, W 0 m j σ H1) ∧ ∀ i m j σ H, W i m j σ H →
  (Jt.stop i H ∧ D.nx j σ H) ∨ (Jt.go i H ∧ ∃ N : Nat → L2.St → Hp → Prop, (∀ j' σ' H', N j' σ' H' → ∃ m', m' < m ∧ W (i + 1) m' j' σ' H') ∧ ∀ x H', Jt.yld i H x H' → g x σ H' fun σ2 H2 => tb { D with nx := N, ct := N, bk := D.nx } j σ2 H2)
theorem gs_for2 {tg iter : Expr} {body : List Stmt} {pos : Pos} {wi : TI} {g' : TG} {tb : TGe} (K : G.Ok) (hcalm : G.X.calm = true) (hi : ∀ s0, PI (at0 G.X s0) tg iter wi) (hg : ∀ s0, PG (at0 G.X s0) tg g') (hb : GSs2 G body tb)
    (hs : ∀ x, foldedSetIterable iter G.X.env x = pure x := by intro _; rfl) : GS2 G (.For tg iter body [] pos) (tgFor wi g' tb) := by
  refine ⟨fun A ip R n j s₀ c fs Kf J gd lv s σ H D g hn k hI ht => ?_⟩
  rw [exec_For]
  refine seg_bind_wrap (wpAny_standAt ?_)
  refine seg_bind_wrap ?_
  rw [g.over]
  refine wpAny_mono ((hi (fic G.sc G.L s₀)).run ip s σ H _ hI ht) (fun v s1 h1 => ?_) fun x s' hx => (K.nox x s' hx).elim
  refine seg_bind_wrap (wpAny_of_eq (hs v) ?_)
  refine seg_bind_wrap (wpAny_standAt ?_)
  refine seg_bind_wrap (wpAny_holding ?_)
  rw [g.over]
  refine wpAny_mono h1 (fun itv s2 h2 => ?_) fun x s' hx => (K.nox x s' hx).elim
  obtain ⟨it, fp, tn, Jt, H2, e, I2, T, st2, f2, W, ⟨m0, w0⟩, turn⟩ := h2
  subst e
  refine seg_runOwn2 fun p => ?_
  have gl := fun (kk : Result → Sem PySem.Fin) => gc_loop2 (k := kk) (c' := .forLoop tg (.ref it) body [] G.X.env) (l := lv []) (kp := []) (p := p) g rfl rfl
  have stat : ∀ {s₁ : Shared} {H' : Hp}, (∀ b ∈ fp, H' b = none) → ∀ b ∈ fp, FpOk (G.at s₁) ip H' b := fun hn b hb => fp_at (s₀ := s₀) ⟨hn b hb, (f2 b hb).2⟩
  have loop : ∀ (m n j i : Nat) (s₀ s : Shared) (σ : L2.St) (H : Hp), n + j = G.N → W i m j σ H → GI2 G s₀ ip σ H s → tn i s.heap → (∀ b ∈ fp, H b = none) →
      GSeg G A R n s₀ (.forLoop tg (.ref it) body [] G.X.env) ((model G.X.prog G.X.w).den (.forLoop tg (.ref it) body [] G.X.env))
        (.ret (fun r => ((match r with | .ok f => (.pure f : Sem Flow) | .error e => .raise e).onRaise (cameBack G.X.env)).wrap Kf J gd lv) none (gd false) (lv []) c p [] :: fs) s := by
    intro m
    induction m using Nat.strongRecOn with
    | ind m ih =>
      intro n j i s₀ s σ H hn w hI htn hfr
      show GSeg G A R n s₀ _ ((forTurn tg (.ref it) body [] G.X.env).onRaise (fun x => do noteFrame x G.X.env; theTreesLotGoes x)) _ s
      unfold forTurn
      rw [Sem.onRaise_eq_wrap]
      refine seg_bind_wrap (wpAny_standAt ?_)
      rcases turn i m j σ H w with ⟨stop, qn⟩ | ⟨go, N, hN, step⟩
      · refine seg_bind_wrap (wpAny_onRaise ?_)
        rw [(gl _).over]
        refine wpAny_mono (T.done (G.at s₀) rfl rfl rfl hcalm i ip s σ H (fun _ _ => False) hI (stat hfr) htn stop) (fun r s4 ⟨hr, I4⟩ => ?_) fun x s' hx => hx.elim
        subst hr
        refine seg_again rfl ?_
        show GSeg G A R n s₀ (.block [] G.X.env) (.pure (.done .next)) _ s4
        exact seg_leaf (.ok .next) (k n j s₀ s4 .next hn ⟨σ, H, I4, qn⟩)
      · refine seg_bind_wrap (wpAny_onRaise ?_)
        rw [(gl _).over]
        refine wpAny_mono (T.item (G.at s₀) rfl rfl rfl hcalm i ip s σ H (fun _ _ => False) hI (stat hfr) htn go) (fun r s4 ⟨u, hr, h4⟩ => ?_) fun x s' hx => hx.elim
        subst hr
        refine seg_bind_wrap ?_
        rw [(gl _).over]
        refine wpAny_mono h4 (fun _ s5 ⟨x, H5, I5, r5, y5, st5, fr5⟩ => ?_) fun x s' hx => hx.elim
        have I5' := I5.pinned (stat fr5) (T.obj _ _ st5)
        refine seg_bind_wrap ?_
        rw [(gl _).over]
        refine wpAny_mono ((hg (fic G.sc G.L s₀)).run _ s5 σ H5 x u _ I5' r5 (step x H5 y5)) (fun _ s6 ⟨σ6, H6, I6, q6⟩ => ?_) fun x s' hx => (K.nox x s' hx).elim
        rw [Sem.bind_eq_wrap', Sem.wrap_wrap]
        refine hb.run A (ip ++ pinsAt fp s5.heap) R n j s₀ _ _ _ _ _ _ s6 σ6 H6 { D with nx := N, ct := N, bk := D.nx } ⟨(gl _).over, (gl _).split, (gl _).guard, rfl⟩ hn (fun n' j' s₀' s7 f hn' hs => ?_) I6 q6
        have again : ∀ {σ7 : L2.St} {H7 : Hp}, GI2 G s₀' (ip ++ pinsAt fp s5.heap) σ7 H7 s7 → N j' σ7 H7 → ∃ m', m' < m ∧ W (i + 1) m' j' σ7 H7 ∧ GI2 G s₀' ip σ7 H7 s7 ∧ tn (i + 1) s7.heap ∧ ∀ b ∈ fp, H7 b = none := fun {σ7 H7} I7 n7 => by
          obtain ⟨m', hm, w7⟩ := hN j' σ7 H7 n7
          refine ⟨m', hm, w7, I7.unpinned, T.keep _ _ _ st5 fun b hb o e => (I7.pin (b, o) (List.mem_append_right _ (List.mem_append_right _ (mem_pinsAt hb e)))).1, fun b hb => ?_⟩
          obtain ⟨o, e, d⟩ := T.obj _ _ st5 b hb
          exact (I7.pin (b, o) (List.mem_append_right _ (List.mem_append_right _ (mem_pinsAt hb e)))).2.1
        cases f with
        | next =>
          obtain ⟨σ7, H7, I7, n7⟩ := hs
          obtain ⟨m', hm, w7, J7, t7, f7⟩ := again I7 n7
          exact seg_again rfl (ih m' hm n' j' (i + 1) s₀' s7 σ7 H7 hn' w7 J7 t7 f7)
        | cont =>
          obtain ⟨σ7, H7, I7, n7⟩ := hs
          obtain ⟨m', hm, w7, J7, t7, f7⟩ := again I7 n7
          exact seg_again rfl (ih m' hm n' j' (i + 1) s₀' s7 σ7 H7 hn' w7 J7 t7 f7)
        | brk =>
          obtain ⟨σ7, H7, I7, q7⟩ := hs
          exact seg_leaf (.ok .next) (k n' j' s₀' s7 .next hn' ⟨σ7, H7, I7.unpinned, q7⟩)
        | ret v =>
          obtain ⟨x7, σ7, H7, I7, r7, q7⟩ := hs
          exact seg_leaf (.ok (.ret v)) (k n' j' s₀' s7 (.ret v) hn' ⟨x7, σ7, H7, I7.unpinned, r7, q7⟩)
  exact loop m0 n j 0 s₀ s2 σ H2 hn w0 I2 st2 fun b hb => (f2 b hb).1
theorem gs_never {st : Stmt} : GS2 G st (fun _ _ _ _ => False) := ⟨fun _ _ _ _ _ _ _ _ _ _ _ _ _ _ _ _ _ _ _ _ h => h.elim⟩
end
end FTG
/-! A generator def by its body; a for over its call. -/
namespace FTG
open PySem PySem.Spec PyProof.Rows L2 GenW
abbrev SpG2 := List V → Hp → (Nat → V → Hp → Prop) → (Nat → V → Prop) → (Nat → Hp → Prop) → Prop
def REnd2 (P : Program) (w : World) (outer : List Env) (H : Hp) (s : Shared) (L : Addr) (Z : Nat → Hp → Prop) : GenEnd := fun n s₀ r s1 =>
  (r = .ok (.ret .none) ∨ r = .ok .next) ∧ ∃ H' j, n + j = sizeLine ∧ s1.os = s.os ∧ AllBare s1.gens ∧ Un (frs outer) [] H H' (fic s L s₀).heap s1.heap ∧ HOk P w H' s1.heap ∧ Z j H'
def YItem2 (P : Program) (w : World) (outer : List Env) (H : Hp) (s : Shared) (L a : Addr) (g : Nat) (Y : Nat → V → Hp → Prop) (More : Nat → V → Prop) : Protocol := fun n s₀ v s1 kap =>
  ∃ j x H', n + 1 + j = sizeLine ∧ RelV x v ∧ s1.os = s.os ∧ AllBare s1.gens ∧ s1.heap.NoLimit ∧ s1.heap.IsGen a g ∧ Un (frs outer) [] H H' (fic s L s₀).heap s1.heap ∧ HOk P w H' s1.heap ∧ Y j x H' ∧
    (More j x → ∀ s', Slp L s1 s' → kap (.send .none) s')
def GMade2 (P : Program) (w : World) (k : Nat) (outer : List Env) (H : Hp) (s : Shared) (Y : Nat → V → Hp → Prop) (More : Nat → V → Prop) (Z : Nat → Hp → Prop) (u : Value) (s' : Shared) : Prop :=
  ∃ (a : Addr) (g : Nat) (c : Code), u = .ref a ∧ s.heap.objs.size ≤ a ∧ a < s'.heap.objs.size ∧ s'.heap.IsGen a g ∧ s'.gens[g]? = some (.fresh c) ∧ s'.os = s.os ∧ AllBare s'.gens ∧ s'.heap.NoLimit ∧ (∀ b o, s.heap.get? b = some o → s'.heap.get? b = some o) ∧
    ∀ (A : Around) (L : Addr) (s2 : Shared), Room k A → A.frames = some outer → L ∈ frs outer → Slp L s' s2 →
      Seg (model P w) A (REnd2 P w outer H s L Z) (YItem2 P w outer H s L a g Y More) sizeLine s2 c ((model P w).den c) [] s2
structure GFn2 (P : Program) (w : World) (K : PySem.W.Frag) (mg : Str → Option Value) (base : Heap) (k : Nat) (f : Addr) (fd : FuncData) (ps : List Str) (sp : SpG2) : Prop where
  len : ∀ vs H Y M Z, sp vs H Y M Z → vs.length = ps.length
  run : ∀ (A : Around) (outer : List Env) (s : Shared) (H : Hp) (args : Args) (us : List Value) (vs : List V) (Y : Nat → V → Hp → Prop) (M : Nat → V → Prop) (Z : Nat → Hp → Prop), Room k A → Env0 P w K mg base A outer s H → BindsTo s fd args (ps.zip us) → Vals vs us → sp vs H Y M Z →
    codeAny (model P w) A (.call (.ref f) args) (fun r s' => match r with | .ok (.ret u) => GMade2 P w k outer H s Y M Z u s' | _ => False) s
/-- pins in the context -/
theorem inv_pn {X : Cx} {pn pins : List (Addr × Obj)} {σ : L2.St} {H : Hp} {s : Shared} (I : Inv X pins σ H s) (h : ∀ p ∈ pn ++ pins, s.heap.get? p.1 = some p.2 ∧ H p.1 = none ∧ p.1 ≠ X.env.locals ∧ p.1 ∉ X.fs ∧ ∀ v, p.2.data ≠ .cell v) :
    Inv { X with pn := pn } pins σ H s :=
  ⟨⟨I.ok.mod, I.ok.kind, I.ok.glob, I.ok.blt, I.ok.above, I.ok.inj, I.ok.has, I.ok.cab, I.ok.hd, I.ok.frames, I.ok.stk, I.ok.exf, I.ok.bs, I.ok.bsz, I.ok.noex, I.ok.exfs, I.ok.funs, I.ok.frf⟩, I.os, I.bare, I.base, I.loc, I.cell, I.free, I.freeC, h, I.hok, I.len⟩
/-- the context of a generator's body -/
def gcx2 (P : Program) (w : World) (K : PySem.W.Frag) (mg : Str → Option Value) (base : Heap) (N : List Str) (qual : Str) (scope : Scope) (f : Addr) (cd : Value) (A : Around) (outer : List Env) (s : Shared) (H : Hp) (pn : List (Addr × Obj)) : Cx :=
  { cxOf CX0 P w K mg base N qual scope f cd A outer s H E0 with pn := pn, xe := fun _ _ => False }
/-- THE RULE: a generator def, by its body -/
theorem gfn2_of {P : Program} {w : World} {K : PySem.W.Frag} {mg : Str → Option Value} {base : Heap} {k : Nat} {f : Addr} {name qual : Str} {params : Arguments} {body : List Stmt} {scope : Scope} {dV kV doc pm cdv ct oc : Value} {an od : Option Addr}
    {osl : Array (Option Value)} {N ps : List Str} {sp : SpG2} (lk : K.lookup f = some ⟨oc, od, .func (PySem.W.fnOf name qual params body scope dV kV doc pm an cdv ct), osl⟩) (hcd : PySem.W.codeIn K cdv qual = true) (S : GScope N ps scope)
    (len : ∀ vs H Y M Z, sp vs H Y M Z → vs.length = ps.length)
    (hbody : ∀ (A : Around) (outer : List Env) (s : Shared) (H : Hp) (vs : List V) (Y : Nat → V → Hp → Prop) (M : Nat → V → Prop) (Z : Nat → Hp → Prop) (pn : List (Addr × Obj)) (L : Addr), Room k (A.deeper (envOfC qual scope s.heap.objs.size f cdv)) → sp vs H Y M Z →
      GP.Ok ⟨gcx2 P w K mg base N qual scope f cdv A outer s H pn, s, L, sizeLine, Y, M⟩ →
      ∃ t, GSs2 ⟨gcx2 P w K mg base N qual scope f cdv A outer s H pn, s, L, sizeLine, Y, M⟩ body t ∧ t { nx := fun j _ H' => Z j H', rt := fun j v H' => v = .non ∧ Z j H' } 0 (start N vs) H) :
    GFn2 P w K mg base (k + 1) f (PySem.W.fnOf name qual params body scope dV kV doc pm an cdv ct) ps sp := by
  refine ⟨len, fun A outer s H args us vs Y M Z hr e0 hb r hsp => ?_⟩
  have hl := len _ _ _ _ _ hsp
  have KX : K.In s.heap := e0.mod.kin.keeps fun b o e => (e0.bs b o e).1
  have lim : s.heap.NoLimit := e0.mod.nolimit.keeps fun b o e => (e0.bs b o e).1
  have hkind : ∀ y ∈ ps.zip us, scope.names.lookup y.1 = some .local ∨ (scope.names.lookup y.1 = some .cell ∧ ((cellsFrom (s.heap.objs.size + 1) scope.names []).lookup y.1).isSome = true) := fun ⟨n, v⟩ hy => by
    rcases S.par n (List.of_mem_zip hy).1 with q | q
    · exact .inl q
    · exact .inr ⟨q, PySem.W.cellsFrom_some _ _ _ (.inl q)⟩
  refine codeAny_call_generator hr.depth (KX _ _ lk) rfl S.co S.gen rfl (PySem.W.codeRec_of KX hcd) (hb _ _ _ _ ?_)
  refine wpAny_newFunctionEnv_cells S.kind hkind fun env he s1 x => ?_
  subst he
  have lim1 : s1.heap.NoLimit := lim.keeps x.toInCall.keep
  refine ⟨lim1, ?_⟩
  obtain ⟨h1, tk, es1, hk1⟩ := x.done
  have os1 : s1.os = s.os := by rw [es1]
  have gen1 : s1.gens = s.gens := by rw [es1]
  have lt1 : s.heap.objs.size < s1.heap.objs.size := x.toInCall.ns.lt
  have sz1 : s.heap.objs.size ≤ s1.heap.objs.size := Nat.le_of_lt lt1
  have kp1 : ∀ b o, s.heap.get? b = some o → s1.heap.get? b = some o := x.toInCall.keep
  have main : ∀ (go : Obj) (nm qn : Value) (tk2 : Nat), go.cls = .type "generator" → go.data = .fields #[.int s1.gens.size 0, nm, qn] → go.slots = #[] → (∀ h : Heap, (h.push go).get? h.objs.size = some go) →
      GMade2 P w (k + 1) outer H s Y M Z (.ref s1.heap.objs.size) { s1 with gens := s1.gens.push (.fresh (.func body (envOfC qual scope s.heap.objs.size f cdv))), toks := tk2, heap := s1.heap.push go } := by
    intro go nm qn tk2 hgc hgd0 hgs hgp
    have hgen : ∀ h : Heap, h.get? s1.heap.objs.size = some go → h.IsGen s1.heap.objs.size s1.gens.size := fun h e => ⟨go, nm, qn, e, hgc, hgd0, hgs⟩
    have hpushed : (s1.heap.push go).get? s1.heap.objs.size = some go := hgp _
    refine ⟨s1.heap.objs.size, s1.gens.size, _, rfl, sz1, ?_, hgen _ hpushed, Array.getElem?_push_size .., os1, ?_, lim1.keeps fun b o e => Heap.get?_push_of_some _ e, fun b o e => Heap.get?_push_of_some _ (kp1 b o e), ?_⟩
    · show _ < (s1.heap.push _).objs.size
      rw [Heap.size_push]; exact Nat.lt_succ_self _
    · exact AllBare.push (by rw [gen1]; exact e0.bare) rfl
    intro Aw L s2 hrw hfr hL z
    have e0w : Env0 P w K mg base Aw outer s H := ⟨hfr, e0.mod, e0.bs, e0.bsz, e0.funs, e0.frf, e0.hok, e0.bare⟩
    obtain ⟨_, oL0, hoL0, _⟩ := e0.funs.mem (show L ∈ frs outer from hL)
    have hLlt : L < s.heap.objs.size := Heap.lt_size hoL0
    have GK : ∀ pn, GP.Ok ⟨gcx2 P w K mg base N qual scope f cdv Aw outer s H pn, s, L, sizeLine, Y, M⟩ := fun pn => ⟨fun _ _ h => h, fun _ => rfl, hL, oL0, hoL0⟩
    obtain ⟨t, ht, hq⟩ := hbody Aw outer s H vs Y M Z [(s1.heap.objs.size, go)] L (hrw.deeper _) hsp (GK _)
    have I1 : Inv (gcx2 P w K mg base N qual scope f cdv Aw outer s H []) [] (start N vs) H s1 := (inv_startG (E := E0) S hrw.hd e0w hl r x).wish fun _ _ => False
    have z1 : Slp L s1 s2 := ⟨z.os, z.bare, fun b o hb e => z.keep b o hb (Heap.get?_push_of_some _ e), z.ns⟩
    have I2 : Inv (GP.at ⟨gcx2 P w K mg base N qual scope f cdv Aw outer s H [], s, L, sizeLine, Y, M⟩ s2) [] (start N vs) H s2 := inv_woken (GK []) (s0 := s) Lik.self I1 z1
    have nL : s1.heap.objs.size ≠ L := fun q => by
      rw [← q] at hLlt
      exact absurd (Nat.lt_of_lt_of_le hLlt sz1) (Nat.lt_irrefl _)
    have hea : s2.heap.get? s1.heap.objs.size = some go := z.keep _ _ nL hpushed
    have hgd : ∀ v, go.data ≠ .cell v := fun v q => by rw [hgd0] at q; cases q
    have young : H s1.heap.objs.size = none ∧ s1.heap.objs.size ≠ s.heap.objs.size ∧ s1.heap.objs.size ∉ frs outer := ⟨I1.hok.fresh (Nat.le_refl _), Nat.ne_of_gt lt1, I1.nofs (Nat.le_refl _)⟩
    have I3 : Inv (GP.at ⟨gcx2 P w K mg base N qual scope f cdv Aw outer s H [(s1.heap.objs.size, go)], s, L, sizeLine, Y, M⟩ s2) [] (start N vs) H s2 := inv_pn I2 fun p hp => by
      have hp' : p ∈ ([(s1.heap.objs.size, go)] : List (Addr × Obj)) ++ [] := hp
      have e : p = (s1.heap.objs.size, go) := by simpa using hp'
      subst e
      exact ⟨hea, young.1, young.2.1, young.2.2, hgd⟩
    refine seg_func ?_
    refine seg_imp (R := fun n s₀ r s' => match r with
        | .ok (.ret u) => ∃ j ip σ H', n + j = sizeLine ∧ u = Value.none ∧ GI2 ⟨gcx2 P w K mg base N qual scope f cdv Aw outer s H [(s1.heap.objs.size, go)], s, L, sizeLine, Y, M⟩ s₀ ip σ H' s' ∧ Z j H'
        | _ => False) (Y := GY2 ⟨gcx2 P w K mg base N qual scope f cdv Aw outer s H [(s1.heap.objs.size, go)], s, L, sizeLine, Y, M⟩) (fun n s₀ r s' hR => ?_) (fun n s₀ v s' kap kap' hkk hY => ?_) sizeLine ?_
    · cases r with
      | error e => exact False.elim hR
      | ok fl =>
        cases fl with
        | next => exact False.elim hR
        | brk => exact False.elim hR
        | cont => exact False.elim hR
        | ret u =>
          obtain ⟨j, ip, σ, H', hn, eu, J, hZ⟩ := hR
          subst eu
          exact ⟨.inl rfl, H', j, hn, J.os, J.bare, J.base, J.hok, hZ⟩
    · obtain ⟨j, xx, ip, σ, H', hn, rv, J, hy, hm⟩ := hY
      have hpin : s'.heap.get? s1.heap.objs.size = some go := (J.pin (s1.heap.objs.size, go) (List.mem_append_left _ (List.mem_singleton.mpr rfl))).1
      exact ⟨j, xx, H', hn, rv, J.os, J.bare, J.nolimit, hgen _ hpin, J.base, J.hok, hy, fun q s'' zz => hkk _ _ (hm q s'' zz)⟩
    · refine ht.run Aw [] _ sizeLine 0 s2 _ [] _ _ id id s2 (start N vs) H _ ⟨over_func, rfl, rfl, rfl⟩ (Nat.add_zero _) (fun n j s₀ s' fl hn hs => ?_) I3 hq
      cases fl with
      | next =>
        obtain ⟨σ', H', J, hZ⟩ := hs
        exact seg_end (.ok (.ret .none)) ⟨j, [], σ', H', hn, rfl, J, hZ⟩
      | brk => obtain ⟨_, _, _, q⟩ := hs; exact False.elim q
      | cont => obtain ⟨_, _, _, q⟩ := hs; exact False.elim q
      | ret u =>
        obtain ⟨v, σ', H', J, rv, ev, hZ⟩ := hs
        subst ev
        exact seg_end (.ok (.ret u)) ⟨j, [], σ', H', hn, rv, J, hZ⟩
  exact main _ _ _ _ rfl rfl rfl fun h => Heap.get?_push_size _ rfl
end FTG
/-! A for over a generator's call: the consumer. -/
namespace FTG
open PySem PySem.Spec PyProof.Rows L2 GenW
/-- all is kept but the object at L (a namespace), the generators too -/
structure Kp (L : Addr) (s s' : Shared) : Prop where
  gens : s'.gens = s.gens
  os : s'.os = s.os
  keep : ∀ b o, b ≠ L → s.heap.get? b = some o → s'.heap.get? b = some o
theorem Kp.refl {L : Addr} {s : Shared} : Kp L s s := ⟨rfl, rfl, fun _ _ _ e => e⟩
theorem Kp.trans {L : Addr} {s s1 s2 : Shared} (a : Kp L s s1) (b : Kp L s1 s2) : Kp L s s2 := ⟨b.gens.trans a.gens, b.os.trans a.os, fun c o h e => b.keep c o h (a.keep c o h e)⟩
section
variable {X : Cx} {pins : List (Addr × Obj)} {σ σ' : L2.St} {H H' : Hp} {s : Shared}
/-- a plain local name is stored: what is kept -/
theorem store_loc {M : Model} {A : Around} {E : Value → Shared → Prop} {i : Nat} {x : Str} {v : V} {u : Value} {Q : Unit → Shared → Prop} (I : Inv X pins σ H s) (hN : X.N.Nodup) (hi : X.N[i]? = some x) (hk : X.env.scope.names.lookup x = some .local) (r : RelV v u)
    (h : ∀ s', Inv X pins (σ.set i (some v)) H s' → Kp X.env.locals s s' → Q () s') : wpAny M A (storeName X.env x u) Q E s := by
  obtain ⟨m, hn, hl⟩ := id I.loc
  have hcls : (X.env.scope.kind == .class || (X.env.scope.kind == .module && X.env.locals != X.env.globals)) = false := by rw [I.ok.kind]; rfl
  have hiσ : i < σ.length := by rw [I.len]; exact (List.getElem?_eq_some_iff.mp hi).1
  have cne := I.cne
  refine wpAny_storeName_local hk hn (fun h' hn' hs => ?_) hcls
  have tracked : HOk X.prog X.w H h' := fun b ob e => by
    refine (I.hok b ob e).stay (fun c w' hc q => (hs.2 c ?_).trans q) (fun _ q => q) fun _ _ q => q
    rintro rfl
    rcases hc with rfl | hc
    · rw [I.free] at e; cases e
    · rw [I.free] at hc; cases hc
  refine h _ ⟨I.ok, I.os, I.bare, ⟨fun b o e n hb hx => ?_, fun b o e n hb hx => ?_, I.base.free, fun b o e hx => ?_, I.base.tups, I.base.frzs, I.base.tbls⟩, ⟨_, hn', fun j y v' e1 e2 e3 => ?_⟩, fun y c e => ?_, I.free, I.freeC, fun p hp => ?_, tracked, by simpa using I.len⟩ ⟨rfl, rfl, fun b o hb e => (hs.2 b hb).trans e⟩
  · exact (hs.2 b (Nat.ne_of_lt (Nat.lt_of_lt_of_le (Heap.lt_size e) I.ok.above))).trans (I.base.keep b o e n hb hx)
  · obtain ⟨sl, e1⟩ := I.base.slot b o e n hb hx
    exact ⟨sl, (hs.2 b (Nat.ne_of_lt (Nat.lt_of_lt_of_le (Heap.lt_size e) I.ok.above))).trans e1⟩
  · obtain ⟨o', e1⟩ := I.base.there b o e hx
    exact ⟨o', (hs.2 b (Nat.ne_of_lt (Nat.lt_of_lt_of_le (Heap.lt_size e) I.ok.above))).trans e1⟩
  · by_cases hj : j = i
    · subst hj
      rw [hi] at e1; cases e1
      rw [List.getElem?_set_self hiσ] at e2
      cases e2
      exact ⟨u, r, .inl ⟨hk, by simp⟩⟩
    · rw [List.getElem?_set_ne (Ne.symm hj)] at e2
      obtain ⟨u', r', q⟩ := hl j y v' e1 e2 e3
      refine ⟨u', r', ?_⟩
      rcases q with ⟨k, e⟩ | ⟨k, c, e, z⟩
      · refine .inl ⟨k, ?_⟩
        have : y ≠ x := fun e => hj (nodup_ix hN e1 (e ▸ hi))
        simp [this, e]
      · exact .inr ⟨k, c, e, z.sameBut hs (cne y c e)⟩
  · obtain ⟨w', z⟩ := I.cell y c e
    exact ⟨w', z.sameBut hs (cne y c e)⟩
  · obtain ⟨e, n, ne, nf, d⟩ := I.pin p hp
    exact ⟨(hs.2 p.1 ne).trans e, n, ne, nf, d⟩
/-- the call's state with this frame as it stands now -/
theorem inv_fic {sc s' : Shared} (I0 : Inv X pins σ H sc) (J : Inv X pins σ' H' s') (hcl : X.env.cells = []) : Inv X pins σ' H (fic sc X.env.locals s') := by
  obtain ⟨m', ⟨oL, es, ep, hoL, hdL⟩, hl'⟩ := J.loc
  obtain ⟨m0, ⟨o0, _, _, ho0, _⟩, _⟩ := I0.loc
  have hat : (fic sc X.env.locals s').heap.get? X.env.locals = some oL := fic_at ho0 hoL
  have neS : ∀ b o, X.s_0.heap.get? b = some o → b ≠ X.env.locals := fun b o e => Nat.ne_of_lt (Nat.lt_of_lt_of_le (Heap.lt_size e) I0.ok.above)
  have up : ∀ b o, b ≠ X.env.locals → sc.heap.get? b = some o → (fic sc X.env.locals s').heap.get? b = some o := fun b o hb e => by rw [fic_ne hb]; exact e
  have nocell : ∀ {x c}, X.env.cells.lookup x = some c → False := fun {x c} e => by rw [hcl] at e; cases e
  have neT : ∀ b u, H b = some u → b ≠ X.env.locals := fun b u q hb => by rw [hb, I0.free] at q; cases q
  refine ⟨I0.ok, I0.os, I0.bare, ⟨fun b o e n hb hx => up b o (neS b o e) (I0.base.keep b o e n hb hx), fun b o e n hb hx => ?_, I0.base.free, fun b o e hx => ?_, I0.base.tups, I0.base.frzs, I0.base.tbls⟩, ⟨m', ⟨oL, es, ep, hat, hdL⟩, fun i x v e1 e2 e3 => ?_⟩,
    fun x c e => (nocell e).elim, I0.free, I0.freeC, fun p hp => ?_, fun a o e => ?_, J.len⟩
  · obtain ⟨sl, e1⟩ := I0.base.slot b o e n hb hx
    exact ⟨sl, up b _ (neS b o e) e1⟩
  · obtain ⟨o', e1⟩ := I0.base.there b o e hx
    exact ⟨o', up b o' (neS b o e) e1⟩
  · obtain ⟨u, r, l⟩ := hl' i x v e1 e2 e3
    refine ⟨u, r, ?_⟩
    rcases l with l | ⟨k, c, e, z⟩
    · exact .inl l
    · exact (nocell e).elim
  · obtain ⟨e, n, ne, nf, d⟩ := I0.pin p hp
    exact ⟨up p.1 p.2 ne e, n, ne, nf, d⟩
  · refine (I0.hok a o e).stay (fun b u hb q => up b u ?_ q) (fun _ q => q) fun _ _ q => q
    rcases hb with hb | hb
    · rw [hb]; exact neT a o e
    · exact neT b _ hb
end
/-- a block that keeps all but its frame, where it goes on -/
def SPK (X : Cx) (pins : List (Addr × Obj)) (s : Shared) (D : Ends) (f : Flow) (s' : Shared) : Prop :=
  match f with
  | .next => ∃ σ' H', Inv X pins σ' H' s' ∧ D.nx σ' H' ∧ Kp X.env.locals s s'
  | .brk => ∃ σ' H', Inv X pins σ' H' s' ∧ D.bk σ' H'
  | .cont => ∃ σ' H', Inv X pins σ' H' s' ∧ D.ct σ' H' ∧ Kp X.env.locals s s'
  | .ret u => ∃ v σ' H', Inv X pins σ' H' s' ∧ RelV v u ∧ D.rt v H'
structure PSsK (X : Cx) (st : List Stmt) (t : TS) : Prop where
  run : ∀ (pins : List (Addr × Obj)) (s : Shared) (σ : L2.St) (H : Hp) (D : Ends), Inv X pins σ H s → t D σ H → wpAny (model X.prog X.w) X.A (execs st X.env) (SPK X pins s D) X.xe s
/-- a block that never goes on -/
theorem PSsK.of_ret {X : Cx} {st : List Stmt} {t : TS} (h : PSs X st t) : PSsK X st (fun D σ H => t { nx := fun _ _ => False, rt := D.rt } σ H) := by
  refine ⟨fun pins s σ H D I ht => ?_⟩
  refine thn (h.run pins s σ H _ I ht) fun f s' hs => ?_
  cases f with
  | next => obtain ⟨_, _, _, q⟩ := hs; exact False.elim q
  | brk => obtain ⟨_, _, _, q⟩ := hs; exact False.elim q
  | cont => obtain ⟨_, _, _, q⟩ := hs; exact False.elim q
  | ret u => exact hs
def tForG (sp : SpG2) (dvs : List V) (t : TA) (i : Nat) (tb : TS) : TS := fun D σ H => t σ H fun vs H1 => ∃ (Y : Nat → V → Hp → Prop) (More : Nat → V → Prop) (Z : Nat → Hp → Prop) (W : Nat → L2.St → Prop),
  sp (vs ++ dvs) H1 Y More Z ∧ W 0 σ ∧ (∀ j σ, W j σ → j < sizeLine) ∧
  (∀ j σ x H', W j σ → Y j x H' → tb { nx := fun σ' H2 => More j x ∧ W (j + 1) σ', rt := D.rt } (σ.set i (some x)) H') ∧ ∀ j σ H', W j σ → Z j H' → D.nx σ H'
section
variable {X : Cx} {k : Nat} {f : Addr} {fd : FuncData} {ps : List Str} {sp : SpG2} {dvs : List V} {ds : List Value}
theorem ps_forG {x gx : Str} {i : Nat} {e : Expr} {es : List Expr} {ta : TA} {body : List Stmt} {tb : TS} {px p pos' pos : Pos} (hp : PassesOwn (model X.prog X.w) X.A X.env X.xe) (hcalm : X.calm = true) (hcl : X.env.cells = []) (hst : X.stack = X.env :: X.outer) (hfrm : X.env.frame = some X.env.locals)
    (F : GFn2 X.prog X.w X.K X.mg X.base k f fd ps sp) (hr : Room (k + 1) X.A) (hg : Gl X gx) (hm : X.mg gx = some (.ref f)) (hk : PySem.W.keepIn X.K (.ref f) = true) (hb : Binds X.K fd ps ds) (hd : Vals dvs ds) (ha : PA X (e :: es) ta)
    (hN : X.N.Nodup) (hi : X.N[i]? = some x) (hx : X.env.scope.names.lookup x = some .local) (hbody : PSsK X body tb)
    (hdb : (gx == ("__debug__" : Str)) = false := by decide) (he : starEach (e :: es) X.env = (false, eval e X.env) :: starEach es X.env := by rfl) (hpl : (backTo pos' (starEach es X.env)).any (·.1) = false := by rfl)
    (hs : ∀ y, foldedSetIterable (.Call (.Name gx p) (e :: es) [] pos') X.env y = pure y := by intro _; rfl) :
    PS X (.For (.Name x px) (.Call (.Name gx p) (e :: es) [] pos') body [] pos) (tForG sp dvs ta i tb) := by
  refine ⟨fun pins s σ H D I h => ?_⟩
  refine wpAny_For ?_ hs
  refine wpAny_Call_Name_kw (ld_glob I hg hm ?_ hdb)
  refine PySem.W.callWith_K (h₀ := X.base) I.ok.mod.kin hk (thn (ha.run pos' pins s σ H _ I h) fun us s1 ⟨vs, H1, I1, r, q⟩ => ⟨I1.kIn, ?_⟩) he hpl
  obtain ⟨Y, More, Z, W, hsp, w0, wlt, turn, done⟩ := q
  have r2 : Vals (vs ++ dvs) (us ++ ds) := r.append hd
  have hl2 : (us ++ ds).length = ps.length := by rw [← r2.length]; exact F.len _ _ _ _ _ hsp
  refine wpAny_call (codeAny_mono (F.run X.A X.stack s1 H1 ⟨us, []⟩ (us ++ ds) (vs ++ dvs) Y More Z (hr.mono (Nat.le_succ _)) I1.env0 (hb s1 us I1.kIn hl2) r2 hsp) fun rr s2 hq => ?_)
  cases rr with
  | error er => exact False.elim hq
  | ok fl =>
    cases fl with
    | next => exact False.elim hq
    | brk => exact False.elim hq
    | cont => exact False.elim hq
    | ret u =>
      obtain ⟨a, g, c, eu, ha1, ha2, hgen, hgs, hos, hbare, hlim, hkp, wake⟩ := hq
      show wpAny _ _ (pyIter u) _ _ s2
      rw [eu]
      refine wpAny_pyIter_gen hgen ?_
      have L_mem : X.env.locals ∈ frs X.stack := by
        rw [hst]
        show X.env.locals ∈ (X.env :: X.outer).filterMap (·.frame)
        rw [List.filterMap_cons, hfrm]
        exact List.mem_cons_self
      have I2 : Inv X pins σ H1 s2 := I1.call' (ch := []) hos (Un.kept hkp) (I1.hok.kept hkp) hbare fun b z => by simp at z
      have hLsc : X.env.locals < s1.heap.objs.size := I1.lt
      have aneL : a ≠ X.env.locals := fun q => by
        rw [q] at ha1
        exact absurd (Nat.lt_of_lt_of_le hLsc ha1) (Nat.lt_irrefl _)
      have nsOf : ∀ {σ' H' s'}, Inv X pins σ' H' s' → ∃ m, s'.heap.Ns X.env.locals m := fun {σ' H' s'} J => let ⟨m, hn, _⟩ := J.loc; ⟨m, hn⟩
      have RM : Room k X.A.in1 := hr.in1
      -- the loop
      refine codeAny_forLoop_any (fun n s' => ∃ j σ' H', n + j = sizeLine ∧ W j σ' ∧ Inv X pins σ' H' s' ∧ s'.heap.IsGen a g ∧ ∃ gs, s'.gens[g]? = some gs ∧
        gs.Goes (model X.prog X.w) X.A.in1 (fun n s₀ r s₁ => ((r = .ok (.ret .none) ∨ r = .ok .next) ∧ ∃ H' j, n + j = sizeLine ∧ s₁.os = s1.os ∧ AllBare s₁.gens ∧ Un (frs X.stack) [] H1 H' (fic s1 X.env.locals s₀).heap s₁.heap ∧ HOk X.prog X.w H' s₁.heap ∧ Z j H') ∨ ∃ e, r = .error e ∧ False)
          (YItem2 X.prog X.w X.stack H1 s1 X.env.locals a g Y More) n (.send .none) (s'.setGen g .running)) ?_ sizeLine ⟨0, σ, H1, rfl, w0, I2, hgen, _, hgs, rfl, ?_⟩
      · rintro n s3 ⟨j, σ3, H3, hn, w3, I3, hg3, gs, hgs3, hgo⟩
        have hjlt := wlt j σ3 w3
        have hgl : g < s3.gens.size := (Array.getElem?_eq_some_iff.mp hgs3).1
        have Ific : Inv X pins σ3 H1 (fic s1 X.env.locals s3) := inv_fic I1 I3 hcl
        refine wpAny_passesOwn hp (wpAny_gsz (n := g + 1) hgl (next_genG (A := X.A) (Er := fun _ _ => False) (I3.ok.hd hcalm) I3.nolimit (by have := hr.dp; omega) hg3 hgs3 hgo (fun v s₁ gs' hbr hv => ?_) (fun s₁ hpp h' hkk => ?_) fun _ _ z => z.elim))
        · intro hsz
          obtain ⟨j', xv, H', hn', rv, os1, bare1, lim1, gen1, un1, hok1, hY, hmore⟩ := hv
          have ej : j' = j := by omega
          subst ej
          have hsz1 : g < s₁.gens.size := by
            have q : (s₁.setGen g gs').gens.size = s₁.gens.size := setGen_size _ _ _
            have hsz' : g + 1 ≤ (s₁.setGen g gs').gens.size := hsz
            omega
          have I4 : Inv X pins σ3 H' (s₁.setGen g gs') := Ific.call' (s' := s₁.setGen g gs') (ch := []) os1 un1 hok1 (allBare_setGen bare1 hbr) fun b z => by simp at z
          refine wpAny_of_eq (rfl : letOwnedTupleGo (.Name x px) (.ref a) v = pure ()) ?_
          refine wpAny_passesOwn hp (wpAny_assign_Name (store_loc I4 hN hi hx rv fun s5 I5 k5 => ?_))
          refine wpAny_passesOwn hp (thn (hbody.run pins s5 _ H' _ I5 (turn j' σ3 xv H' w3 hY)) fun f s7 hs7 => ?_)
          have again : ∀ {σ7 : L2.St} {H7 : Hp}, Inv X pins σ7 H7 s7 → More j' xv ∧ W (j' + 1) σ7 → Kp X.env.locals s5 s7 → ∃ m, m < n ∧ ∃ j σ' H', m + j = sizeLine ∧ W j σ' ∧ Inv X pins σ' H' s7 ∧ s7.heap.IsGen a g ∧ ∃ gs, s7.gens[g]? = some gs ∧
              gs.Goes (model X.prog X.w) X.A.in1 (fun n s₀ r s₁ => ((r = .ok (.ret .none) ∨ r = .ok .next) ∧ ∃ H' j, n + j = sizeLine ∧ s₁.os = s1.os ∧ AllBare s₁.gens ∧ Un (frs X.stack) [] H1 H' (fic s1 X.env.locals s₀).heap s₁.heap ∧ HOk X.prog X.w H' s₁.heap ∧ Z j H') ∨ ∃ e, r = .error e ∧ False)
                (YItem2 X.prog X.w X.stack H1 s1 X.env.locals a g Y More) m (.send .none) (s7.setGen g .running) := fun {σ7 H7} I7 ⟨hmo, w7⟩ k7 => by
            obtain ⟨n, rfl⟩ : ∃ m, n = m + 1 := ⟨n - 1, by omega⟩
            have kk : Kp X.env.locals (s₁.setGen g gs') s7 := k5.trans k7
            refine ⟨n, Nat.lt_succ_self _, j' + 1, σ7, H7, by omega, w7, I7, ?_, gs', ?_, ?_⟩
            · obtain ⟨o, nm, qn, ho, rr⟩ := gen1
              exact ⟨o, nm, qn, kk.keep a o aneL ho, rr⟩
            · rw [kk.gens]; exact setGen_at hsz1
            · exact hmore hmo (s7.setGen g .running) ⟨kk.os, allBare_setGen I7.bare rfl, fun b o hb e => kk.keep b o hb e, (show ∃ m, s7.heap.Ns X.env.locals m from nsOf I7)⟩
          cases f with
          | next => obtain ⟨σ7, H7, I7, n7, k7⟩ := hs7; exact again I7 n7 k7
          | cont => obtain ⟨σ7, H7, I7, n7, k7⟩ := hs7; exact False.elim n7
          | brk => obtain ⟨σ7, H7, I7, n7⟩ := hs7; exact False.elim n7
          | ret v => obtain ⟨x7, σ7, H7, I7, r7, q7⟩ := hs7; exact ⟨x7, σ7, H7, I7, r7, q7⟩
        · intro _
          obtain ⟨H', j', hn', os1, bare1, un1, hok1, hZ⟩ := hpp
          have ej : j' = j := by omega
          subst ej
          refine wpAny_execs_nil ⟨σ3, H', ?_, done j' σ3 H' w3 hZ⟩
          exact Ific.call' (s' := { s₁.setGen g .finished with heap := h' }) (ch := []) os1 (un1.trans (Un.kept hkk)) (hok1.kept hkk) (allBare_setGen bare1 rfl) fun b z => by simp at z
      · refine seg_imp (R := REnd2 X.prog X.w X.stack H1 s1 X.env.locals Z) (Y := YItem2 X.prog X.w X.stack H1 s1 X.env.locals a g Y More) (fun n s₀ r s' hR => .inl hR) (fun n s₀ v s' kap kap' hkk hY => ?_) sizeLine
          (wake X.A.in1 X.env.locals (s2.setGen g .running) RM I1.ok.frames L_mem ⟨rfl, allBare_setGen hbare rfl, fun b o _ e => e, (show ∃ m, s2.heap.Ns X.env.locals m from nsOf I2)⟩)
        obtain ⟨j, xx, H', hn, rv, o1, o2, o3, o4, o5, o6, hy, hmo⟩ := hY
        exact ⟨j, xx, H', hn, rv, o1, o2, o3, o4, o5, o6, hy, fun q s'' zz => hkk _ _ (hmo q s'' zz)⟩
end
end FTG
/-! Small expressions and statements that keep all but their frame. -/
namespace FTG
open PySem PySem.Spec PyProof.Rows L2 GenW
abbrev TT2 := L2.St → Hp → (V → Prop) → Prop
/-- an expression that makes nothing but its value -/
structure PEt (X : Cx) (e : Expr) (t : TT2) : Prop where
  run : ∀ (pins : List (Addr × Obj)) (s : Shared) (σ : L2.St) (H : Hp) (q : V → Prop), Inv X pins σ H s → t σ H q →
    wpAny (model X.prog X.w) X.A (eval e X.env) (fun u s' => ∃ v tk, s' = { s with toks := tk } ∧ RelV v u ∧ q v) X.xe s
section
variable {X : Cx} {a b : Expr} {ta tb : TT2} {pos : Pos}
theorem ct_var {i : Nat} {x : Str} (hN : X.N[i]? = some x) (hl : X.env.scope.names.lookup x = some .local) (hd : (x == ("__debug__" : Str)) = false := by decide) : PEt X (.Name x pos) (fun σ _ q => ∃ v, σ[i]? = some (some v) ∧ q v) := by
  refine ⟨fun pins s σ H q I h => ?_⟩
  obtain ⟨v, e, h⟩ := h
  obtain ⟨m, hn, hl'⟩ := id I.loc
  obtain ⟨u, r, l⟩ := hl' i x v hN e (.inl hl)
  rcases l with ⟨hk, hm⟩ | ⟨hk, _⟩
  · exact wpAny_Name (wpAny_loadName_local I.ok.kind hk hn hm ⟨v, s.toks, rfl, r, h⟩) hd
  · have hl2 : X.env.kindOf x = some .local := hl
    rw [hl2] at hk
    rcases hk with z | z <;> cases z
theorem ct_int {i : Int} {j} : PEt X (.Constant (.int i) j pos) (fun _ _ q => q (.int i)) := ⟨fun _ s _ H q I h => wpAny_Constant_int ⟨.int i, _, rfl, ⟨_, rfl⟩, h⟩⟩
theorem inv_tok {pins : List (Addr × Obj)} {s s' : Shared} {σ : L2.St} {H : Hp} {tk : Nat} (I : Inv X pins σ H s) (e : s' = { s with toks := tk }) : Inv X pins σ H s' := by
  subst e
  exact I.tok _
theorem ct_sub (ha : PEt X a ta) (hb : PEt X b tb) : PEt X (.BinOp a .Sub b pos) (fun σ H q => ta σ H fun x => tb σ H fun y => ∃ i j : Int, x = .int i ∧ y = .int j ∧ q (.int (i - j))) := by
  refine ⟨fun pins s σ H q I h => ?_⟩
  refine wpAny_BinOp (thn (ha.run pins s σ H _ I h) fun v s1 ⟨x, t1, e1, r1, q1⟩ => thn (hb.run pins s1 σ H _ (inv_tok I e1) q1) fun u s2 ⟨y, t2, e2, r2, i, j, ex, ey, q2⟩ => ?_)
  subst ex ey
  obtain ⟨t, rfl⟩ := r1
  obtain ⟨t', rfl⟩ := r2
  subst e1 e2
  exact sub_int ⟨.int (i - j), _, rfl, ⟨_, rfl⟩, q2⟩
theorem ct_add (ha : PEt X a ta) (hb : PEt X b tb) : PEt X (.BinOp a .Add b pos) (fun σ H q => ta σ H fun x => tb σ H fun y => ∃ i j : Int, x = .int i ∧ y = .int j ∧ q (.int (i + j))) := by
  refine ⟨fun pins s σ H q I h => ?_⟩
  refine wpAny_BinOp (thn (ha.run pins s σ H _ I h) fun v s1 ⟨x, t1, e1, r1, q1⟩ => thn (hb.run pins s1 σ H _ (inv_tok I e1) q1) fun u s2 ⟨y, t2, e2, r2, i, j, ex, ey, q2⟩ => ?_)
  subst ex ey
  obtain ⟨t, rfl⟩ := r1
  obtain ⟨t', rfl⟩ := r2
  subst e1 e2
  exact add_int ⟨.int (i + j), _, rfl, ⟨_, rfl⟩, q2⟩
theorem ct_fld {f : Str} (ha : PEt X a ta) (hb : attributeBase a f X.env (eval a X.env) = eval a X.env) : PEt X (.Attribute a f pos) (fun σ H q => ta σ H fun x => ∃ p C dx fs v, x = .ref p ∧ H p = some (.ins C dx fs) ∧ Cls X.K C ∧ NoAttr X.K C f ∧ fs.lookup f = some v ∧ q v) := by
  refine ⟨fun pins s σ H q I h => ?_⟩
  refine attr_of hb (thn (ha.run pins s σ H _ I h) fun u s1 ⟨x, t1, e1, rx, p, C, dx, fs, v, ex, ea, c, n, l, q1⟩ => ?_)
  subst ex
  obtain rfl : u = Value.ref p := rx
  have I1 := inv_tok I e1
  obtain ⟨mA, O, r, _, _, _⟩ := ins_get I1.hok ea
  obtain ⟨u, hu, ru⟩ := RelO.some_of (v := v) (o := mA f) (by rw [← l]; exact r f)
  subst e1
  exact get_map I1.kIn O (c.get f) c.hd n hu (handed_of ru) ⟨v, _, rfl, ru, q1⟩
/-- statements that keep all but their frame -/
structure PSK (X : Cx) (st : Stmt) (t : TS) : Prop where
  run : ∀ (pins : List (Addr × Obj)) (s : Shared) (σ : L2.St) (H : Hp) (D : Ends), Inv X pins σ H s → t D σ H → wpAny (model X.prog X.w) X.A (exec st X.env) (SPK X pins s D) X.xe s
theorem kp_tok {L : Addr} {s s' : Shared} {tk : Nat} (e : s' = { s with toks := tk }) : Kp L s s' := by
  subst e
  exact ⟨rfl, rfl, fun _ _ _ q => q⟩
theorem SPK.after {pins : List (Addr × Obj)} {s s1 s2 : Shared} {D : Ends} {f : Flow} (k : Kp X.env.locals s s1) (h : SPK X pins s1 D f s2) : SPK X pins s D f s2 := by
  cases f with
  | next => obtain ⟨σ', H', I, n, k'⟩ := h; exact ⟨σ', H', I, n, k.trans k'⟩
  | brk => exact h
  | cont => obtain ⟨σ', H', I, n, k'⟩ := h; exact ⟨σ', H', I, n, k.trans k'⟩
  | ret u => exact h
theorem ssk_nil : PSsK X [] tNext := ⟨fun _ _ σ H _ I h => wpAny_execs_nil ⟨σ, H, I, h, Kp.refl⟩⟩
theorem ssk_cons {st : Stmt} {rest : List Stmt} {t u : TS} (h1 : PSK X st t) (h2 : PSsK X rest u) : PSsK X (st :: rest) (tSeq t u) := by
  refine ⟨fun pins s σ H D I h => ?_⟩
  refine wpAny_execs_cons (thn (h1.run pins s σ H { D with nx := u D } I h) fun f s1 q => ?_)
  cases f with
  | next =>
    obtain ⟨σ', H', I', q, k⟩ := q
    exact thn (h2.run pins s1 σ' H' D I' q) fun f s2 z => z.after k
  | ret v => exact q
  | brk => exact q
  | cont => exact q
/-- if a >= b: a block -/
theorem sk_ifGe {body orelse : List Stmt} {t u : TS} {cpos : Pos} (ha : PEt X a ta) (hb : PEt X b tb) (h1 : PSsK X body t) (h2 : PSsK X orelse u) : PSK X (.If (.Compare a [.GtE] [b] cpos) body orelse pos)
    (fun D σ H => ta σ H fun x => tb σ H fun y => ∃ i j : Int, x = .int i ∧ y = .int j ∧ if decide (j ≤ i) = true then t D σ H else u D σ H) := by
  refine ⟨fun pins s σ H D I h => ?_⟩
  refine wpAny_If (wpAny_isTrue_Compare1 (thn (ha.run pins s σ H _ I h) fun v s1 ⟨x, t1, e1, r1, q1⟩ => thn (hb.run pins s1 σ H _ (inv_tok I e1) q1) fun w' s2 ⟨y, t2, e2, r2, i, j, ex, ey, q2⟩ => ?_) (nomark _))
  subst ex ey
  obtain ⟨t, rfl⟩ := r1
  obtain ⟨t', rfl⟩ := r2
  have I2 := inv_tok (inv_tok I e1) e2
  have k2 : Kp X.env.locals s s2 := (kp_tok e1).trans (kp_tok e2)
  refine ge_int (wpAny_truthy_bool ?_)
  cases c : decide (j ≤ i) with
  | true =>
    rw [c, if_pos rfl] at q2
    exact thn (h1.run pins s2 σ H D I2 q2) fun f s3 z => z.after k2
  | false =>
    rw [c, if_neg Bool.false_ne_true] at q2
    exact thn (h2.run pins s2 σ H D I2 q2) fun f s3 z => z.after k2
theorem sk_set {i : Nat} {x : Str} {pos' : Pos} (hN : X.N.Nodup) (hi : X.N[i]? = some x) (hx : X.env.scope.names.lookup x = some .local) (he : PEt X a ta) (hs : swapsWith a (some (.Name x pos')) pos.line X.env = pure false := by rfl) :
    PSK X (.Assign [.Name x pos'] a pos) (fun D σ H => ta σ H fun y => D.nx (σ.set i (some y)) H) := by
  refine ⟨fun pins s σ H D I h => ?_⟩
  refine wpAny_Assign_Name (thn (he.run pins s σ H _ I h) fun v s1 ⟨y, t1, e1, r1, q1⟩ => ?_) hs
  exact store_loc (inv_tok I e1) hN hi hx r1 fun s2 I2 k2 => ⟨_, H, I2, q1, (kp_tok e1).trans k2⟩
end
end FTG
/-! The text by places: statements, names by slot. -/
namespace FT
open PySem PySem.Spec PyProof.Rows L2
def top (i : Nat) : Stmt := PySem.Challenge.pw_freetakes_k30_whole_least_leaves.main.body.getD i (.Pass ⟨0, 0, 0, 0⟩)
abbrev sBad : Stmt := inClass (top 3) 0
abbrev sIsInt : Stmt := top 10
abbrev sIsHeap : Stmt := top 11
abbrev sNeedHeap : Stmt := top 12
abbrev sCommon : Stmt := top 13
abbrev sNeedPart : Stmt := top 18
abbrev sRested : Stmt := inClass (top 25) 0
abbrev sSized : Stmt := inClass (top 26) 0
abbrev sFixed : Stmt := inClass (top 27) 0
abbrev sStands : Stmt := inClass (top 27) 1
abbrev sLeft : Stmt := inClass (top 27) 2
abbrev sFAinit : Stmt := inClass (top 30) 0
abbrev sFreeBool : Stmt := inClass (top 31) 1
abbrev sBarInit : Stmt := inClass (top 32) 0
abbrev sBarBool : Stmt := inClass (top 32) 2
abbrev sIsBarred : Stmt := top 33
abbrev sSettled : Stmt := top 34
abbrev sBars : Stmt := top 35
abbrev sFree : Stmt := top 36
abbrev sIsFree : Stmt := top 37
abbrev sLeast : Stmt := top 38
abbrev sAreW : Stmt := top 43
abbrev sShort : Stmt := top 44
abbrev sLForm : Stmt := top 45
abbrev sTinit : Stmt := inClass (top 48) 1
abbrev sWorthAt : Stmt := inClass (top 48) 4
abbrev sPen : Stmt := top 50
abbrev sDraw : Stmt := top 51
abbrev sPick : Stmt := top 52
abbrev sLLeft : Stmt := top 53
abbrev sTold : Stmt := top 54
abbrev sAt : Stmt := top 55
abbrev sWhole : Stmt := top 56
abbrev sEnd : Stmt := top 57
abbrev sLBarred : Stmt := top 58
abbrev sDue : Stmt := top 59
abbrev sHeard : Stmt := top 60
abbrev sRight : Stmt := top 61
abbrev sRefused : Stmt := top 62
abbrev sLaw : Stmt := top 63
/-! ### names by slot -/
theorem scIsInt : FnScope ["value", "least", "most"] ["value", "least", "most"] (defScope sIsInt) := ⟨rfl, rfl, rfl, by decide +kernel, rfl, by decide +kernel, by decide +kernel⟩
theorem scIsHeap : FnScope ["value"] ["value"] (defScope sIsHeap) := ⟨rfl, rfl, rfl, by decide +kernel, rfl, by decide +kernel, by decide +kernel⟩
theorem scNeedHeap : FnScope ["value"] ["value"] (defScope sNeedHeap) := ⟨rfl, rfl, rfl, by decide +kernel, rfl, by decide +kernel, by decide +kernel⟩
theorem scCommon : FnScope ["one", "other", "found"] ["one", "other"] (defScope sCommon) := ⟨rfl, rfl, rfl, by decide +kernel, rfl, by decide +kernel, by decide +kernel⟩
theorem scNeedPart : FnScope ["value", "least", "most", "part"] ["value", "least", "most", "part"] (defScope sNeedPart) := ⟨rfl, rfl, rfl, by decide +kernel, rfl, by decide +kernel, by decide +kernel⟩
theorem scRested : FnScope ["self", "rest", "modulus"] ["self", "rest", "modulus"] (defScope sRested) := ⟨rfl, rfl, rfl, by decide +kernel, rfl, by decide +kernel, by decide +kernel⟩
theorem scSized : FnScope ["self", "size", "leave"] ["self", "size", "leave"] (defScope sSized) := ⟨rfl, rfl, rfl, by decide +kernel, rfl, by decide +kernel, by decide +kernel⟩
theorem scFixed : FnScope ["self", "size", "rest", "modulus", "leave"] ["self", "size", "rest", "modulus", "leave"] (defScope sFixed) := ⟨rfl, rfl, rfl, by decide +kernel, rfl, by decide +kernel, by decide +kernel⟩
theorem scStands : FnScope ["self", "n"] ["self", "n"] (defScope sStands) := ⟨rfl, rfl, rfl, by decide +kernel, rfl, by decide +kernel, by decide +kernel⟩
theorem scLeft : FnScope ["self", "n"] ["self", "n"] (defScope sLeft) := ⟨rfl, rfl, rfl, by decide +kernel, rfl, by decide +kernel, by decide +kernel⟩
theorem scFAinit : FnScope ["self", "rule"] ["self", "rule"] (defScope sFAinit) := ⟨rfl, rfl, rfl, by decide +kernel, rfl, by decide +kernel, by decide +kernel⟩
theorem scFreeBool : FnScope ["self"] ["self"] (defScope sFreeBool) := ⟨rfl, rfl, rfl, by decide +kernel, rfl, by decide +kernel, by decide +kernel⟩
theorem scBarBool : FnScope ["self"] ["self"] (defScope sBarBool) := ⟨rfl, rfl, rfl, by decide +kernel, rfl, by decide +kernel, by decide +kernel⟩
theorem scIsBarred : FnScope ["table", "rule", "heap"] ["table", "rule", "heap"] (defScope sIsBarred) := ⟨rfl, rfl, rfl, by decide +kernel, rfl, by decide +kernel, by decide +kernel⟩
theorem scSettled : FnScope ["table", "rule", "reach"] ["table", "rule"] (defScope sSettled) := ⟨rfl, rfl, rfl, by decide +kernel, rfl, by decide +kernel, by decide +kernel⟩
theorem scBars : GScope ["table", "rule", "first", "settled", "heap", "whole", "at", "spots"] ["table", "rule", "first"] (defScope sBars) := ⟨rfl, rfl, rfl, by decide +kernel, rfl, by decide +kernel, by decide +kernel⟩
theorem scFree : FnScope ["table", "rule", "heap"] ["table", "rule"] (defScope sFree) := ⟨rfl, rfl, rfl, by decide +kernel, rfl, by decide +kernel, by decide +kernel⟩
theorem scIsFree : FnScope ["table", "rule"] ["table", "rule"] (defScope sIsFree) := ⟨rfl, rfl, rfl, by decide +kernel, rfl, by decide +kernel, by decide +kernel⟩
theorem scLeast : FnScope ["table", "size", "rest", "modulus", "rule", "least", "heap"] ["table", "size", "rest", "modulus"] (defScope sLeast) := ⟨rfl, rfl, rfl, by decide +kernel, rfl, by decide +kernel, by decide +kernel⟩
theorem scAreW : FnScope ["value", "many", "worth"] ["value", "many"] (defScope sAreW) := ⟨rfl, rfl, rfl, by decide +kernel, rfl, by decide +kernel, by decide +kernel⟩
theorem scShort : FnScope ["again", "many", "size"] ["again"] (defScope sShort) := ⟨rfl, rfl, rfl, by decide +kernel, rfl, by decide +kernel, by decide +kernel⟩
theorem scLForm : FnScope ["ahead", "again", "many"] ["ahead", "again"] (defScope sLForm) := ⟨rfl, rfl, rfl, by decide +kernel, rfl, by decide +kernel, by decide +kernel⟩
theorem scTinit : FnScope ["self", "begin", "period", "numbers", "ahead", "again"] ["self", "begin", "period", "numbers"] (defScope sTinit) := ⟨rfl, rfl, rfl, by decide +kernel, rfl, by decide +kernel, by decide +kernel⟩
theorem scWorthAt : FnScope ["self", "heap"] ["self", "heap"] (defScope sWorthAt) := ⟨rfl, rfl, rfl, by decide +kernel, rfl, by decide +kernel, by decide +kernel⟩
theorem scPen : FnScope ["_law_script"] ["_law_script"] (defScope sPen) := ⟨rfl, rfl, rfl, by decide +kernel, rfl, by decide +kernel, by decide +kernel⟩
theorem scDraw : FnScope ["_law_pen_here", "_law_many", "_law_digit", "_law_turn", "_law_cell", "_law_great", "_law_mixed"] ["_law_pen_here", "_law_many"] (defScope sDraw) := ⟨rfl, rfl, rfl, by decide +kernel, rfl, by decide +kernel, by decide +kernel⟩
theorem scPick : FnScope ["_law_pen_here", "_law_some"] ["_law_pen_here", "_law_some"] (defScope sPick) := ⟨rfl, rfl, rfl, by decide +kernel, rfl, by decide +kernel, by decide +kernel⟩
theorem scLLeft : FnScope ["_law_part", "_law_heap"] ["_law_part", "_law_heap"] (defScope sLLeft) := ⟨rfl, rfl, rfl, by decide +kernel, rfl, by decide +kernel, by decide +kernel⟩
theorem scTold : FnScope ["_law_pen_here", "_law_ahead", "_law_turn", "_law_menu", "_law_k"] ["_law_pen_here"] (defScope sTold) := ⟨rfl, rfl, rfl, by decide +kernel, rfl, by decide +kernel, by decide +kernel⟩
theorem scAt : FnScope ["_law_told_here", "_law_heap", "_law_row", "_law_ahead", "_law_turn"] ["_law_told_here", "_law_heap"] (defScope sAt) := ⟨rfl, rfl, rfl, by decide +kernel, rfl, by decide +kernel, by decide +kernel⟩
theorem scWhole : FnScope ["_law_one", "_law_other", "_law_found"] ["_law_one", "_law_other"] (defScope sWhole) := ⟨rfl, rfl, rfl, by decide +kernel, rfl, by decide +kernel, by decide +kernel⟩
theorem scEnd : FnScope ["_law_told_here", "_law_part", "_law_row", "_law_ahead", "_law_turn", "_law_wide", "_law_start"] ["_law_told_here", "_law_part"] (defScope sEnd) := ⟨rfl, rfl, rfl, by decide +kernel, rfl, by decide +kernel, by decide +kernel⟩
end FT
/-! BadRule: made (super().__init__(text), then its field), raised, read. -/
namespace FT
open PySem PySem.Spec PyProof.Rows L2
open PySem.W (Frag fnX envX)
abbrev fdB (cc : Addr) (dV kV doc pm : Value) (an : Option Addr) (cdv ct : Value) : FuncData := fnX "__init__" "BadRule.__init__" (defArgs sBad) (defBody sBad) (defScope sBad) [("__class__", cc)] dV kV doc pm an cdv ct
/-- what the written part says of BadRule, at C (its base of the program at B), of its __init__, at fI -/
structure BadTxt (P : Program) (K : Frag) (mg : Str → Option Value) (C fI : Addr) : Prop where
  gC : mg "BadRule" = some (.ref C)
  cls : ∃ nm q N bs bm sn sub ab col dd k0 k1 k2 k3 k5, K.lookup C = some (excClassObj nm q C N bs bm true sn sub ab col dd k0 k1 k2 k3 k5 "ValueError.__new__") ∧ HandSPX.refsVE bm = true
  sa : PySem.W.findIn K (.ref C) "__setattr__" = some (some (.builtin "object.__setattr__"))
  ga : PySem.W.findIn K (.ref C) "__getattribute__" = some (some (.builtin "BaseException.__getattribute__"))
  gg : PySem.W.findIn K (.ref C) "__getattr__" = some none
  noN : PySem.W.findIn K (.ref C) "part" = some none
  iC : PySem.W.findIn K (.ref C) "__init__" = some (some (.ref fI))
  tC : PySem.W.typeIn K (.ref fI) = some (.type "function")
  kC : PySem.W.keepIn K (.ref C) = true
  exC : PySem.W.subIn K (.ref C) (.type "BaseException") = some true
  veC : PySem.W.subIn K (.ref C) (.type "ValueError") = some true
  tyC : PySem.W.typeIn K (.ref C) = some (.type "type")
  hdC : PySem.W.hasDictIn K C = true
  fn : ∃ (oc : Value) (od : Option Addr) (doc pm : Value) (an : Option Addr) (cda cc : Addr) (ct : Value) (osl : Array (Option Value)) (ccl cl : Value) (cdd cld : Option Addr) (vs : Array Value) (ccs csl : Array (Option Value)) (file : Str) (tf : Tok),
    K.lookup fI = some ⟨oc, od, .func (fdB cc .none .none doc pm an (.ref cda) ct), osl⟩ ∧ PySem.W.codeIn K (.ref cda) "BadRule.__init__" = true ∧ K.lookup cda = some ⟨ccl, cdd, .fields vs, ccs⟩ ∧ vs[2]? = some (.str file tf) ∧
    ((P.main.file : Str) == file) = true ∧ K.lookup cc = some ⟨cl, cld, .cell (some (.ref C)), csl⟩
  mro : PySem.W.mroIn K C (.ref C) = some true
  sup : PySem.W.ks_superIn K C C "__init__" = some (some (.builtin "ValueError.__init__"))
  noS : mg "super" = none
  top : (P.main.scope.names.lookup ("super" : Str)).isSome = false
  opq : PySem.W.nsIn K cStatics "thirdparty.any" = some none
abbrev excO := @HandSPX.excO
theorem one_size (v : Value) : [v].length ≤ sizeLine := by
  rw [sizeLine_eq]
  exact (by decide : 1 ≤ 16777216)
/-- what __init__ leaves of a fresh exception at x -/
structure InitEnd (h h' : Heap) (x C dx t1 : Addr) (v : Value) : Prop where
  keep : ∀ b o, b ≠ x → h.get? b = some o → h'.get? b = some o
  obj : h'.get? x = some { cls := .ref C, dict := some dx, data := .fields #[.ref t1, .none, .none, .none, .bool false, .none] }
  dbig : h.objs.size ≤ dx
  dne : dx ≠ x
  ns : h'.Ns1 dx (fun y => if y = "part" then some v else none)
/-- the bound ValueError.__init__ of the exception at e, called -/
theorem call_bw {prog : Program} {w : World} {A : Around} {E : Value → Shared → Prop} {h : Heap} {g : Array GenState} {d : Drawn} {t : Nat} {os : OsState}
    {nm q : Str} {C N : Addr} {bs bm : List Value} {hdct : Bool} {sn : List Str} {sub : List Value} {ab : Bool} {col : Option Bool} {dd : Option Addr} {k0 k1 k2 k3 k5 : Option Value}
    {u e t0 : Addr} {rest : List Value} {Q : Value → Shared → Prop}
    (hC : h.get? C = some (excClassObj nm q C N bs bm hdct sn sub ab col dd k0 k1 k2 k3 k5 "ValueError.__new__")) (he : h.get? e = some (HandSPX.excO C t0)) (hu : h.get? u = some (PySem.W.kxs_mw "ValueError.__init__" e)) (hrest : rest.length ≤ sizeLine)
    (hq : ∀ h' t1, (∀ b o, b ≠ e → h.get? b = some o → h'.get? b = some o) → h'.get? e = some (HandSPX.excO C t1) → h'.objs.size = h.objs.size + 1 → Q .none ⟨h', g, d, t, os⟩) :
    wpAny (model prog w) A (call (.ref u) rest) Q E ⟨h, g, d, t, os⟩ := by
  refine wpAny_call (codeAny_of_tree ?_)
  show wpAny _ A.in1 (callAny (.ref u) ⟨rest, []⟩) _ _ _
  simp only [callAny]
  refine wpAny_bind (wpAny_load hu ?_)
  simp only [PySem.W.kxs_mw, show (Value.type "method-wrapper" == Value.type "method" || Value.type "method-wrapper" == Value.type "builtin_function_or_method" || Value.type "method-wrapper" == Value.type "method-wrapper") = true by decide, if_true]
  refine W.KFB.if_so (by decide) ?_
  refine wpAny_bind (ESX.check_bound F.excBase_ValueError hC he rfl ?_)
  refine wpAny_bind (wpAny_pure (wpAny_pure ?_))
  refine ⟨Code.quiet_builtin _ (by decide +kernel), codeAny_builtin F.excBase_ValueError.initEntry ?_⟩
  rw [Around.under_plainId F.excBase_ValueError.init.plain _]
  wp_walk
  refine hq _ h.objs.size (fun b o hb ho => ?_) ?_ ?_
  · rw [Heap.get?_update_other _ _ (Ne.symm hb)]
    exact Heap.get?_push_of_some _ ho
  · rw [Heap.get?_update_self _ (Heap.get?_push_of_some _ he) rfl]
    rfl
  · rw [Heap.size_after_update, Heap.size_push]

section
variable {P : Program} {w : World} {A : Around} {E : Value → Shared → Prop} {R : Result → Shared → Prop} {s : Shared} {K : Frag} {mg mb : Str → Option Value} {C fI : Addr}
theorem ldC {M : Model} {s : Shared} {env : Env} {m : Str → Option Value} {x : Str} {pos : Pos} {v : Value} {Q : Value → Shared → Prop} {A : Around} {E : Value → Shared → Prop} (hn : s.heap.Ns env.locals m) (hv : m x = some v) (h : Q v s)
    (hk : env.scope.kind = .function := by rfl) (hl : env.kindOf x = some .local := by rfl) (hd : (x == ("__debug__" : Str)) = false := by decide) : wpAny M A (eval (.Name x pos) env) Q E s := wpAny_Name (wpAny_loadName_local hk hl hn hv h) hd
theorem bad_init (T : BadTxt P K mg C fI) {x t0 : Addr} {v : Value} (X : K.In s.heap) (hlim : s.heap.NoLimit) (G : s.heap.Ns mainGlobals mg) (B : s.heap.Ns builtinsNs mb) (hb : mb "super" = some (.type "super")) (hx : s.heap.get? x = some (HandSPX.excO C t0)) (hnx : K.lookup x = none) (hroom : A.depth < recursionLimit)
    (hq : ∀ h' tk dx t1, InitEnd s.heap h' x C dx t1 v → R (.ok (.ret .none)) { s with heap := h', toks := tk }) :
    codeAny (model P w) A (.call (.ref fI) ⟨[.ref x, v], []⟩) R s := by
  obtain ⟨oc, od, doc, pm, an, cda, cc, ct, osl, ccl, cl, cdd, cld, vs, ccs, csl, file, tf, lk, hcd, lc, hvs, hfile, lcell⟩ := T.fn
  obtain ⟨nm, q, N, bs, bm, sn, sub, ab, col, dd, k0, k1, k2, k3, k5, hC, hbm⟩ := T.cls
  obtain ⟨hp, g, d, tk, os⟩ := s
  have hcl : PySem.W.clsIn K C = some { name := nm, bases := bs, mro := .ref C :: bm, ns := N, qualname := q, hasDict := true, slotNames := sn, subclasses := sub, abstract := ab, collection := col, hasDel := false } := by unfold PySem.W.clsIn; rw [hC] <;> rfl
  refine PySem.ks_codeAny_call_defAt (fd := fdB cc .none .none doc pm an (.ref cda) ct) (body := defBody sBad) (binds := [("self", .ref x), ("part", v)]) hroom (X _ _ lk) rfl hlim (PySem.W.codeRec_of X hcd) rfl (BindsTo.of_eq (by rfl)) (show ∀ y ∈ (defScope sBad).names, y.2 ≠ NameKind.cell by decide +kernel) (fun y hy => by
    rcases List.mem_cons.mp hy with e | hy
    · subst e; rfl
    · have e : y = (("part" : Str), v) := by simpa using hy
      subst e; rfl) (fun h₁ hns k₁ => ?_)
  have X₁ : K.In h₁ := X.keeps k₁
  have hx₁ := k₁ _ _ hx
  have hxL : hp.objs.size ≠ x := Nat.ne_of_gt (Heap.lt_size hx)
  have lt1 : hp.objs.size < h₁.objs.size := hns.lt
  refine ks_wpAt_execs_cons (ks_wpAt_Expr_any (ks_wpAt_MethodCall ?_))
  have tC : PySem.W.typeIn K (.ref C) = some (.type "type") := T.tyC
  have IA : PySem.W.InstAt h₁ x (HandSPX.excO C t0) C none := ⟨hx₁, rfl, rfl, trivial⟩
  have neC : x ≠ C := PySem.W.ks_ne X₁ IA hcl
  refine ks_wpAt_super_base (f := fI) (cc := cda) (by rfl) (by rfl) (by decide) rfl (X₁ _ _ lk) rfl (ar := (defArgs sBad).args.headD default) (by rfl) rfl (X₁ _ _ lc) rfl hvs hfile T.top ?_
  refine PySem.W.ks_loadName_global (by rfl) (by rfl) (Calls.loadGlobal_builtin (G.keeps k₁) T.noS (B.keeps k₁) hb ⟨rfl, ?_⟩)
  refine wpAny_loadName_free (by rfl) (by rfl) rfl ⟨_, X₁ _ _ lcell, rfl⟩ ?_
  refine wpAny_loadName_local (by rfl) (by rfl) hns (v := .ref x) (by rfl) ?_
  refine ks_wpAny_isType_cls (X₁ _ _ hC) rfl ⟨rfl, ?_⟩
  refine ks_wpAny_call_super (X₁ _ _ hC) rfl hx₁ rfl (fun c e => by cases e) (PySem.W.looks_mroIn X₁ T.mro) (fun h₂ e₂ k₂ => ?_)
  have X₂ : K.In h₂ := X₁.keeps k₂
  have hx₂ := k₂ _ _ hx₁
  have IA₂ : PySem.W.InstAt h₂ x (HandSPX.excO C t0) C none := ⟨hx₂, rfl, rfl, trivial⟩
  have hsup := T.sup
  unfold PySem.W.ks_superIn at hsup
  rw [hcl] at hsup
  refine PySem.W.kxs_getMethod (h := h₂) PySem.W.kxs_ValueError e₂ (PySem.W.looks_opaque X₂ T.opq) (l₀ := Value.ref C :: bm) (fun A Q E s k q => wpAny_bind ((PySem.W.looks_clsIn X₂ hcl) A _ E s k (wpAny_pure q))) rfl X₂ hsup
    (IA₂.type.andThen (PySem.W.looks_subIn X₂ T.veC)) neC (by decide) ?_
  have k₃ : ∀ b o, h₂.get? b = some o → (h₂.push (PySem.W.kxs_mw "ValueError.__init__" x)).get? b = some o := fun b o e => Heap.get?_push_of_some _ e
  have hu : (h₂.push (PySem.W.kxs_mw "ValueError.__init__" x)).get? h₂.objs.size = some (PySem.W.kxs_mw "ValueError.__init__" x) := Heap.get?_push_size _ rfl
  refine PySem.W.kxs_callWith (i := "ValueError.__init__") (x := x) (by rfl) (Calls.evalArgs_plain ?_)
  refine Calls.spliced_cons (Calls.Constant_str (k := 0) (pos := ⟨0, 0, 0, 0⟩) (Calls.spliced_nil ⟨hu, ?_⟩))
  refine call_bw (k₃ _ _ (X₂ _ _ hC)) (k₃ _ _ hx₂) hu (one_size _) (fun h₄ t1 k₄ hx₄ sz₄ => ?_)
  have kk : ∀ b o, b ≠ x → h₁.get? b = some o → h₄.get? b = some o := fun b o hb e => k₄ b o hb (k₃ b o (k₂ b o e))
  have X₄ : K.In h₄ := fun b o e => kk b o (fun z => by rw [z, hnx] at e; cases e) (X₁ b o e)
  have hns₄ : h₄.Ns hp.objs.size _ := hns.at fun o e => kk _ o hxL e
  -- self.part = part
  show PySem.wpAt _ _ _ (execs _ _) _ _ _
  refine wpAt_of_wpAny (wpAny_execs_cons (plainObj_wpAny_Assign_Attribute ?_))
  refine ldC (v := v) hns₄ (by rfl) (ldC (v := .ref x) hns₄ (by rfl) ?_)
  refine PySem.W.set_plain X₄ (ox := HandSPX.excO C t1) (od := none) ⟨hx₄, rfl, rfl, trivial⟩ T.sa ?_
  refine HandSPX.exc_osa X₄ hx₄ hcl (show HandSPX.refsVE (.ref C :: bm) = true from hbm) rfl T.noN (fun h₅ tk₅ dx k₅ dn dne hx₅ hn₅ => ?_)
  refine wpAny_execs_nil (hq h₅ tk₅ dx t1 ⟨fun b o hb e => k₅ b o hb (kk b o hb (k₁ b o e)), hx₅, ?_, dne, hn₅⟩)
  have z2 : h₁.objs.size ≤ h₄.objs.size := by
    rw [sz₄, Heap.size_push]
    have : h₁.objs.size ≤ h₂.objs.size := Nat.le_of_lt (Heap.lt_size e₂)
    omega
  exact Nat.le_trans (Nat.le_trans (Nat.le_of_lt lt1) z2) dn
/-- a made BadRule -/
structure OwnMade (h h' : Heap) (e C d : Addr) (v : Value) : Prop where
  keep : ∀ b o, h.get? b = some o → h'.get? b = some o
  new : h.objs.size ≤ e
  obj : ∃ oe vs, h'.get? e = some oe ∧ oe.cls = .ref C ∧ oe.dict = some d ∧ oe.data = .fields vs ∧ vs[1]? = some .none
  dbig : h.objs.size ≤ d
  dne : d ≠ e
  ns : h'.Ns1 d (fun y => if y = "part" then some v else none)
theorem bad_made (T : BadTxt P K mg C fI) {v : Value} (X : K.In s.heap) (hlim : s.heap.NoLimit) (G : s.heap.Ns mainGlobals mg) (B : s.heap.Ns builtinsNs mb) (hb : mb "super" = some (.type "super")) (hroom : A.depth + 1 < recursionLimit)
    (hq : ∀ h' tk e d, OwnMade s.heap h' e C d v → R (.ok (.ret (.ref e))) { s with heap := h', toks := tk }) :
    codeAny (model P w) A (.call (.ref C) ⟨[v], []⟩) R s := by
  obtain ⟨nm, q, N, bs, bm, sn, sub, ab, col, dd, k0, k1, k2, k3, k5, hC, hbm⟩ := T.cls
  obtain ⟨hp, g, dr, tk, os⟩ := s
  have k : ∀ b o, hp.get? b = some o → ((hp.push (PySem.W.kdv_tup [v])).push (HandSPX.excO C hp.objs.size)).get? b = some o := fun b o e => Heap.get?_push_of_some _ (Heap.get?_push_of_some _ e)
  have hget : ((hp.push (PySem.W.kdv_tup [v])).push (HandSPX.excO C hp.objs.size)).get? (hp.objs.size + 1) = some (HandSPX.excO C hp.objs.size) := by heap_get
  have hnx : K.lookup (hp.objs.size + 1) = none := by
    cases e : K.lookup (hp.objs.size + 1) with
    | none => rfl
    | some o =>
      have z : hp.get? (hp.objs.size + 1) = some o := X _ _ e
      exact absurd (Nat.lt_of_succ_lt (Heap.lt_size z)) (Nat.lt_irrefl _)
  refine HandSPX.call_own F.excBase_ValueError (fun X => HandSPX.refsVE_contains X bm hbm) (X _ _ hC) (PySem.W.looks_findIn X T.iC) (fun self => PySem.W.bind_fn X self T.tC) (one_size v) ?_
  refine bad_init (s := ⟨(hp.push (PySem.W.kdv_tup [v])).push (HandSPX.excO C hp.objs.size), g, dr, tk, os⟩) T (X.keeps k) (hlim.keeps k) (G.keeps k) (B.keeps k) hb hget hnx ?_ fun h' tk' dx t1 ⟨k', hx, dn, dne, hns⟩ => ?_
  · show A.depth + 1 < recursionLimit
    exact hroom
  · have old : ∀ b o, hp.get? b = some o → h'.get? b = some o := fun b o e => k' b o (Nat.ne_of_lt (Nat.lt_succ_of_lt (Heap.lt_size e))) (k b o e)
    have z : hp.objs.size + 1 + 1 ≤ dx := by
      first
        | (simpa only [Heap.size_push] using dn)
        | exact dn
        | (have q := dn; rw [Heap.size_push, Heap.size_push] at q; exact q)
    exact ⟨rfl, hq h' tk' (hp.objs.size + 1) dx ⟨old, Nat.le_succ _, ⟨_, _, hx, rfl, rfl, rfl, rfl⟩, Nat.le_trans (Nat.le_trans (Nat.le_succ _) (Nat.le_succ _)) z, dne, hns⟩⟩
end
theorem relO_bad {v : V} {v' : Value} (r : RelV v v') (f : Str) : RelO (List.lookup f [(("part" : Str), v)]) (if f = "part" then some v' else none) := by
  by_cases hw : f = "part"
  · subst hw
    rw [if_pos rfl]
    have q : List.lookup ("part" : Str) [(("part" : Str), v)] = some v := by simp [List.lookup]
    rw [q]
    exact r
  · rw [if_neg hw]
    have qw : (f == ("part" : Str)) = false := by simpa using hw
    have q2 : List.lookup f [(("part" : Str), v)] = none := by simp [List.lookup, qw]
    rw [q2]
    trivial
section
variable {X : Cx} {C fI : Addr}
/-- BadRule(e) -/
def tMkBad (C : Addr) (ta : TA) : L2.St → Hp → XK → Prop := fun σ H Q => ta σ H fun vs H1 => ∃ v, vs = [v] ∧ ∀ d, H1 d = none → Q (.ref C) (some d) (upd H1 d (.xd [(("part" : Str), v)]))
theorem pmk_bad {a : Expr} {ta : TA} {p pos : Pos} {k : Nat} (T : BadTxt X.prog X.K X.mg C fI) (hr : Room k X.A) (ha : PA X [a] ta) (hg : Gl X "BadRule" := by rfl)
    (he : starEach (a :: []) X.env = (false, eval a X.env) :: starEach [] X.env := by rfl) (hpl : (backTo pos (starEach [] X.env)).any (·.1) = false := by rfl) :
    PMk X (.Call (.Name "BadRule" p) [a] [] pos) (tMkBad C ta) := by
  intro pins s σ H Q I h
  refine wpAny_Call_Name_kw (ld_glob I hg T.gC ?_)
  refine PySem.W.callWith_K (h₀ := X.base) I.ok.mod.kin T.kC (thn (ha.run pos pins s σ H _ I h) fun us s1 hh => ?_) he hpl
  obtain ⟨vs, H1, I1, r1, v, ev, q1⟩ := hh
  subst ev
  refine ⟨I1.kIn, ?_⟩
  cases r1 with
  | cons rv rn =>
    rename_i v' us'
    cases rn
    show wpAny _ _ (call (.ref C) [v']) _ _ _
    have hlim := I1.nolimit
    have hG : s1.heap.Ns mainGlobals X.mg := I1.mod.glob.keeps I1.bk
    obtain ⟨mb, hB, hbb⟩ := I1.mod.blt
    have hB' : s1.heap.Ns builtinsNs mb := hB.keeps I1.bk
    have hsb : mb "super" = some (.type "super") := (hbb "super" (by decide)).trans (by decide +kernel)
    obtain ⟨hp, g, dr, tk, os⟩ := s1
    refine wpAny_call (bad_made T I1.kIn hlim hG hB' hsb (by have := hr.dp; omega) fun h' tk' e d M => ?_)
    show MkP X pins σ Q (.ref e) ⟨h', g, dr, tk', os⟩
    obtain ⟨oe, fv, hoe, hc, hd, hdat, h1⟩ := M.obj
    have hns := M.ns
    obtain ⟨G', g1, g2⟩ := restrict h' fun b => decide (b ≠ e)
    have gk : ∀ b, b ≠ e → G'.get? b = h'.get? b := fun b hb => g1 b (decide_eq_true hb)
    have ge : G'.get? e = none := g2 e (by simp)
    have old : ∀ b o, hp.get? b = some o → G'.get? b = some o := fun b o q => (gk b (Nat.ne_of_lt (Nat.lt_of_lt_of_le (Heap.lt_size q) M.new))).trans (M.keep b o q)
    have ob : ObjOk X.prog X.w (upd H1 d (.xd [(("part" : Str), v)])) G' d (.xd [(("part" : Str), v)]) :=
      ⟨_, hns.at (fun o q => (gk d M.dne).trans q), fun f => relO_bad rv f⟩
    have J : Inv X pins σ (upd H1 d (.xd [(("part" : Str), v)])) ⟨G', g, dr, tk', os⟩ := I1.laid (t' := tk') old M.dbig ob
    refine ⟨e, oe, fv, ⟨G', g, dr, tk', os⟩, _, .ref C, some d, rfl, J, fun b o q => ?_, ge, hoe, ⟨hc, hd⟩, hdat, h1, ?_, rfl, I1.bare, raises_own T.exC T.tyC, q1 d (I1.hok.fresh M.dbig)⟩
    · by_cases hb : b = e
      · have q' : G'.get? b = some o := q
        rw [hb, ge] at q'; cases q'
      · exact (gk b hb).symm.trans q
    · rw [upd_ne (Ne.symm M.dne)]
      exact I1.hok.fresh M.new
/-- raise BadRule(e) -/
def tRaiseBad (C : Addr) (W : WX) (ta : TA) : TS := fun _ σ H => tMkBad C ta σ H fun cls d H' => W cls d σ H'
theorem ps_raiseBad {a : Expr} {ta : TA} {W : WX} {p pos pos2 : Pos} {k : Nat} (hc : X.calm = true) (T : BadTxt X.prog X.K X.mg C fI) (hr : Room k X.A) (tk : Takes X W) (ha : PA X [a] ta) (hg : Gl X "BadRule" := by rfl)
    (he : starEach (a :: []) X.env = (false, eval a X.env) :: starEach [] X.env := by rfl) (hpl : (backTo pos (starEach [] X.env)).any (·.1) = false := by rfl) :
    PS X (.Raise (some (.Call (.Name "BadRule" p) [a] [] pos)) none pos2) (tRaiseBad C W ta) := ps_raise hc tk (pmk_bad T hr ha hg he hpl)
end
end FT
/-! C.m(self, ..) read off a class; bool(o) by an own __bool__; super().__init__(..) of a plain object. -/
namespace FT
open PySem PySem.Spec PyProof.Rows L2
open PySem.W (Frag fnX envX)
/-! ### bool(o) -/
section
variable {X : Cx} {k : Nat} {C f : Addr} {fd : FuncData} {sp : Sp}
theorem callB_own (hc : PySem.W.findIn X.K (.ref C) "__bool__" = some (some (.ref f))) (hf : PySem.W.isFn X.K (.ref f) = true) (Fn : FnOk X.prog X.w X.K X.mg X.base CX0 k f fd ["self"] sp) (hr : Room (k + 4) X.A) (hb : Binds X.K fd ["self"] []) :
    CallR X (.type "bool") (fun xs H Q => ∃ a dx fs, xs = [.ref a] ∧ H a = some (.ins C dx fs) ∧ sp [.ref a] H (fun v H' => ∃ b, v = .bl b ∧ Q (.bl b) H') E0) := by
  intro pins s σ H xs us Q I r h
  obtain ⟨a, dx, fs, rfl, ea, hsp⟩ := h
  obtain rfl := Vals.ref1 r
  obtain ⟨mA, O, _⟩ := ins_get I.hok ea
  obtain ⟨od, J, _⟩ := O.look
  have tr : ∀ (A : Around) (Q' : Bool → Shared → Prop) (E : Value → Shared → Prop) (s' : Shared), Room k A → A.frames = some X.stack → s' = s → (∀ b s2, EP X pins σ Q (.bool b) s2 → Q' b s2) → wpAny (model X.prog X.w) A (truthy (.ref a)) Q' E s' := by
    intro A Q' E s' hrA hfr es hQ
    subst es
    unfold truthy
    refine wpAny_bind (m := callSpecial? (.ref a) (Str.ofString "__bool__")) (PySem.W.special_fn I.kIn J hc (beq_iff_eq.mp hf) ?_)
    have e0 : Env0 X.prog X.w X.K X.mg X.base A X.stack s' H := ⟨hfr, I.env0.mod, I.env0.bs, I.env0.bsz, I.env0.funs, I.env0.frf, I.env0.hok, I.env0.bare⟩
    refine wpAny_call (codeAny_mono (Fn.run A X.stack s' H ⟨[.ref a], []⟩ [.ref a] [.ref a] _ E0 hrA e0 (hb s' [.ref a] I.kIn rfl) (.cons rfl .nil) hsp) fun rr s2 hq => ?_)
    cases rr with
    | error e => exact False.elim hq
    | ok fl =>
      cases fl with
      | next => exact False.elim hq
      | brk => exact False.elim hq
      | cont => exact False.elim hq
      | ret u =>
        obtain ⟨v, H', I2, rv, b, ev, q⟩ := I.after hq
        subst ev
        obtain rfl : u = Value.bool b := rv
        exact wpAny_pure (hQ b s2 ⟨.bl b, H', I2, rfl, q⟩)
  refine callType_codes (Q₁ := fun obj s₁ => ∃ b, obj = Value.bool b ∧ EP X pins σ Q (.bool b) s₁) F.called_bool (F.typeCall_bool_1 _) F.entry_object_init ?new fun obj s₁ h₁ => ?next
  case new =>
    refine codeAny_call_builtin F.called_bool.plain F.entry_bool_new (wpAny_of_eq (F.newCall_bool_1 _) ?_)
    have f1 := F.conv_sub_bool
    have RA : Room k X.A.in1.in1 := ((hr.mono (by omega)).in1 (k := k + 1)).in1
    unfold Builtin.«bool.__new__»
    repeat (any_goals (first | assumption | (with_reducible refine tr _ _ _ _ RA I.ok.frames rfl ?_) | wp_step))
    exact fun b s2 hep => wpAny_pure ⟨b, rfl, hep⟩
  case next =>
    obtain ⟨b, rfl, hep⟩ := h₁
    exact ⟨rfl, F.args_object_init_2 _ _, object_init_meets F.called_bool.init.lookup F.called_bool.made F.newNe_bool X.prog X.w X.A.in1 _ s₁ ⟨rfl, rfl, hep⟩⟩
end
/-! ### super().__init__(..) of a plain object, the first statement of a method -/
/-- what the written part says of a method f of the class at D that calls super().m, and of the def g that this finds for an object of the class at C -/
structure SupTxt (P : Program) (K : Frag) (mg : Str → Option Value) (C D f cda cc g : Addr) (m slf : Str) (fd : FuncData) : Prop where
  lk : ∃ (oc : Value) (od : Option Addr) (osl : Array (Option Value)), K.lookup f = some ⟨oc, od, .func fd, osl⟩
  cl : fd.closure = [(("__class__" : Str), cc)]
  cdv : fd.code = .ref cda
  hd : ∃ ar : Arg, (fd.params.posonlyargs ++ fd.params.args).head? = some ar ∧ ar.arg = slf
  code : ∃ (ccl : Value) (cdd : Option Addr) (vs : Array Value) (ccs : Array (Option Value)) (file : Str) (tf : Tok), K.lookup cda = some ⟨ccl, cdd, .fields vs, ccs⟩ ∧ vs[2]? = some (.str file tf) ∧ ((P.main.file : Str) == file) = true
  cls : ∃ (oD : Obj) (cdD : ClassData), K.lookup D = some oD ∧ oD.data = .cls cdD
  mro : PySem.W.mroIn K C (.ref D) = some true
  sup : PySem.W.ks_superIn K C D m = some (some (.ref g))
  tG : PySem.W.typeIn K (.ref g) = some (.type "function")
  fiG : PySem.W.fnIn K g = true
  noS : mg "super" = none
  top : (P.main.scope.names.lookup ("super" : Str)).isSome = false
  opq : PySem.W.nsIn K cStatics "thirdparty.any" = some none
section
variable {X : Cx} {pins : List (Addr × Obj)} {σ : L2.St} {H : Hp} {s : Shared}
/-- super().m(e, ..) as a statement -/
def tSup (C x : Addr) (sp : Sp) (E : XK) (t : TA) : TS := fun D σ H => (∃ dx fs, H x = some (.ins C dx fs)) ∧ t σ H fun vs H1 => sp (.ref x :: vs) H1 (fun _ H2 => D.nx σ H2) E
theorem sup_stmt {C Dc f cda cc g x : Addr} {m self : Str} {fd : FuncData} {CX : CXT} {k : Nat} {sp : Sp} {E : XK} {body : List Stmt} {p0 p1 apos pos epos : Pos} {e : Expr} {es : List Expr} {t : TA} {i ic : Nat} {D : Ends} (T : SupTxt X.prog X.K X.mg C Dc f cda cc g m self fd)
    (Fn : FnR X.prog X.w X.K X.mg X.base CX k g sp) (hr : Room k X.A) (hx : Passes CX X E) (ha : PA X (e :: es) t) (I : Inv X pins σ H s)
    (hfu : X.env.func = some f) (hco : X.env.code = .ref cda) (hks : X.env.kindOf "super" = some .globalImplicit) (hkc : X.env.kindOf "__class__" = some .free) (hka : X.env.kindOf self = some .local)
    (hi : X.N[i]? = some self) (hself : σ[i]? = some (some (.ref x))) (hic : X.N[ic]? = some "__class__") (hcls : σ[ic]? = some (some (.ref Dc))) (hat : (m == ("__class__" : Str)) = false)
    (hq : tSup C x sp E t D σ H)
    (hst : starEach (e :: es) X.env = (false, eval e X.env) :: starEach es X.env) (hpl : (backTo pos (starEach es X.env)).any (·.1) = false)
    {pl : Sem Bool} (he : eval (.Call (.Attribute (.Call (.Name "super" p0) [] [] p1) m apos) (e :: es) [] pos) X.env = (do
      let ov ← attributeBase (.Call (.Name "super" p0) [] [] p1) m X.env (eval (.Call (.Name "super" p0) [] [] p1) X.env)
      standAt apos.atName
      let (f, first) ← holding [ov] (getMethod ov m pl)
      callWith pos f first (backTo pos (starEach (e :: es) X.env)) [])) (hint : interactive X.env = false) (hsw : swapsWith (.Call (.Attribute (.Call (.Name "super" p0) [] [] p1) m apos) (e :: es) [] pos) none epos.line X.env = pure false) :
    PySem.wpAt (model X.prog X.w) X.A (.func body X.env) (exec (.Expr (.Call (.Attribute (.Call (.Name "super" p0) [] [] p1) m apos) (e :: es) [] pos) epos) X.env) (SP X pins D) X.xe s := by
  obtain ⟨oc, od, osl, lk⟩ := T.lk
  obtain ⟨ar, har, harg⟩ := T.hd
  obtain ⟨ccl, cdd, vs, ccs, file, tf, lc, hvs, hfile⟩ := T.code
  obtain ⟨oD, cdD, lD, hDd⟩ := T.cls
  obtain ⟨⟨dx, fs, ex⟩, ht⟩ := hq
  obtain ⟨mL, hn, hl⟩ := id I.loc
  have hG : s.heap.Ns X.env.globals X.mg := by rw [I.ok.glob]; exact I.mod.glob.keeps I.bk
  obtain ⟨mb, hB, hbb⟩ := I.mod.blt
  have hB' : s.heap.Ns X.env.builtins mb := by rw [I.ok.blt]; exact hB.keeps I.bk
  have hsb : mb "super" = some (.type "super") := (hbb "super" (by decide)).trans (by decide +kernel)
  obtain ⟨uS, ruS, lS⟩ := hl i self _ hi hself (.inl hka)
  obtain rfl : uS = Value.ref x := ruS
  have hmS : mL self = some (.ref x) := by
    rcases lS with ⟨_, h⟩ | ⟨h, _⟩
    · exact h
    · rw [hka] at h; rcases h with h | h <;> cases h
  obtain ⟨uC, ruC, lC⟩ := hl ic "__class__" _ hic hcls (.inr (.inr hkc))
  obtain rfl : uC = Value.ref Dc := ruC
  obtain ⟨c1, hc1, hcell1⟩ : ∃ c, X.env.cells.lookup ("__class__" : Str) = some c ∧ s.heap.IsCell c (some (.ref Dc)) := by
    rcases lC with ⟨h, _⟩ | ⟨_, c, h1, h2⟩
    · rw [hkc] at h; cases h
    · exact ⟨c, h1, h2⟩
  obtain ⟨mA, O, _⟩ := ins_get I.hok ex
  obtain ⟨odx, J, _⟩ := O.look
  have hX := I.kIn
  refine ks_wpAt_Expr_any (ks_wpAt_MethodCall (pl := pl) ?_ he) hint hsw
  refine ks_wpAt_super_base (f := f) (cc := cda) hks hkc hat hfu (hX _ _ lk) rfl har hco (hX _ _ lc) rfl hvs hfile T.top ?_
  refine PySem.W.ks_loadName_global I.ok.kind hks (Calls.loadGlobal_builtin hG T.noS hB' hsb ⟨rfl, ?_⟩)
  refine wpAny_loadName_free I.ok.kind hkc hc1 hcell1 ?_
  rw [harg]
  refine wpAny_loadName_local I.ok.kind hka hn hmS ?_
  have hDo := hX _ _ lD
  have key : ∀ (st : Shared), st = s → wpAny (model X.prog X.w) X.A (isType (.ref Dc)) (fun b s₄ => b = true ∧ wpAny (model X.prog X.w) X.A (call (.type "super") [.ref Dc, .ref x]) (fun ov s₁ => wpAny (model X.prog X.w) X.A (getMethod ov m pl) (fun fx s₂ =>
      wpAny (model X.prog X.w) X.A (callWith pos fx.1 fx.2 (backTo pos (starEach (e :: es) X.env)) []) (fun _ => SP X pins D .next) X.xe s₂) X.xe s₁) X.xe s₄) X.xe st := by
    intro st est
    subst est
    obtain ⟨hp, gn, dr, tk, os⟩ := st
    refine ks_wpAny_isType_cls hDo hDd ⟨rfl, ?_⟩
    refine ks_wpAny_call_super hDo hDd J.at_ J.cls (fun c e' => ?_) (PySem.W.looks_mroIn hX T.mro) (fun h₂ e₂ k₂ => ?_)
    · have := J.no
      unfold PySem.W.notCls at this
      rw [e'] at this
      exact Bool.noConfusion this
    have I2 : Inv X ((hp.objs.size, PySem.W.ks_superObj Dc x C) :: pins) σ H ⟨h₂, gn, dr, tk, os⟩ := ClX.pin_new (t' := tk) I k₂ (Nat.le_refl _) e₂ (fun v z => nomatch z)
    have hX2 := I2.kIn
    obtain ⟨cdC, hcd, hsup⟩ : ∃ cd, PySem.W.clsIn X.K C = some cd ∧ PySem.W.alongIn X.K m ((cd.mro.dropWhile (· != .ref Dc)).drop 1) = some (some (.ref g)) := by
      have hm := T.sup
      unfold PySem.W.ks_superIn at hm
      exact Option.bind_eq_some_iff.mp hm
    obtain ⟨og, hog, hogc⟩ : ∃ og, h₂.get? g = some og ∧ og.cls = .type "function" := by
      have ht' : (X.K.lookup g).map (·.cls) = some (.type "function") := T.tG
      cases z : X.K.lookup g with
      | none => rw [z] at ht'; cases ht'
      | some og => rw [z] at ht'; exact ⟨og, hX2 _ _ z, Option.some.inj ht'⟩
    have hxC : x ≠ C := PySem.W.ks_ne hX J hcd
    refine ks_wpAny_getMethod_super (h := h₂) e₂ (PySem.W.looks_opaque hX2 T.opq) (l₀ := cdC.mro) (fun A Q E s k q => wpAny_bind ((PySem.W.looks_clsIn hX2 hcd) A _ E s k (wpAny_pure q))) rfl hX2 hsup hog hogc hxC hat ?_
    have I3 : Inv X ((h₂.objs.size, PySem.W.methodObj (.ref g) (.ref x)) :: (hp.objs.size, PySem.W.ks_superObj Dc x C) :: pins) σ H ⟨h₂.push (PySem.W.methodObj (.ref g) (.ref x)), gn, dr, tk + 1, os⟩ :=
      ClX.pin_new (t' := tk + 1) I2 (fun b o z => Heap.get?_push_of_some _ z) (Nat.le_refl _) (Heap.get?_push_size _ rfl) (fun v z => nomatch z)
    refine ClX.callwith_cm (X := X) (C := x) (g := g) I3 (ClX.base_none I2 (Nat.le_refl _)) T.fiG (thn (ha.run pos _ _ σ H _ I3 ht) fun us s3 ⟨ws, H2, I4, rv, q2⟩ => ⟨⟨ClX.pin_at I4, I4.kIn⟩, ?_⟩) hst hpl
    refine thn (ClX.run_cm (C := x) (Q := fun _ H2 => D.nx σ H2) Fn hr hx I4 rv q2) fun u s5 ⟨v, H5, I5, _, q5⟩ => ?_
    exact ⟨σ, H5, ClX.unpin I5, q5⟩
  exact key _ rfl
end
end FT
/-! Calls by promises of positional values; a def's promise by its body. -/
namespace FT
open PySem PySem.Spec PyProof.Rows L2
open PySem.W (Frag)
/-- a def or method of the text, no defaults -/
abbrev FnT (K : Frag) (x qual : Str) (st : Stmt) (f : Addr) : Prop := ∃ fd, FunD K x qual (defArgs st) (defBody st) (defScope st) [] [] f fd
/-- a global def: what its name holds -/
abbrev GD (K : Frag) (mg : Str → Option Value) (x : Str) : Prop := mg x = some (.ref (He.ga K x)) ∧ PySem.W.keepIn K (.ref (He.ga K x)) = true
section
variable {P : Program} {w : World} {K : Frag} {mg : Str → Option Value} {base : Heap}
/-- a def's promise, by its body -/
theorem okR {CX : CXT} {x qual : Str} {st : Stmt} {f : Addr} {N ps : List Str} {k : Nat} {sp : Sp} (F : FnT K x qual st f) (S : FnScope N ps (defScope st))
    (hb : ∀ (kV doc pm : Value) (an : Option Addr) (cdv ct : Value) (us : List Value), us.length = ps.length → bindArgs (PySem.W.fnOf x qual (defArgs st) (defBody st) (defScope st) .none kV doc pm an cdv ct) ⟨us, []⟩ = pure (ps.zip us))
    (len : ∀ vs H Q E, sp vs H Q E → vs.length = ps.length)
    (hbody : ∀ (cdv : Value) (A : Around) (outer : List Env) (s : Shared) (H : Hp) (vs : List V) (Q : VK) (E : XK), Room k (A.deeper (envOfC qual (defScope st) s.heap.objs.size f cdv)) → sp vs H Q E →
      ∃ t, PSs (cxOf CX P w K mg base N qual (defScope st) f cdv A outer s H E) (defBody st) t ∧ t { nx := fun _ H' => Q .non H', rt := Q } (start N vs) H) : FnR P w K mg base CX (k + 1) f sp := by
  obtain ⟨fd, F⟩ := F
  have G : FnOk P w K mg base CX (k + 1) f fd ps sp := F.ok S len hbody
  exact (G.raw (F.bindsN hb) .nil).imp fun vs H Q E h => by rw [List.append_nil]; exact h
/-- .. of a def that lets nothing out -/
theorem okR0 {x qual : Str} {st : Stmt} {f : Addr} {N ps : List Str} {k : Nat} {sp : Sp} (F : FnT K x qual st f) (S : FnScope N ps (defScope st))
    (hb : ∀ (kV doc pm : Value) (an : Option Addr) (cdv ct : Value) (us : List Value), us.length = ps.length → bindArgs (PySem.W.fnOf x qual (defArgs st) (defBody st) (defScope st) .none kV doc pm an cdv ct) ⟨us, []⟩ = pure (ps.zip us))
    (len : ∀ vs H Q E, sp vs H Q E → vs.length = ps.length)
    (hbody : ∀ (cdv : Value) (A : Around) (outer : List Env) (s : Shared) (H : Hp) (vs : List V) (Q : VK) (E : XK), Room k (A.deeper (envOfC qual (defScope st) s.heap.objs.size f cdv)) → sp vs H Q E →
      ∃ t, PSs (cxOf CX0 P w K mg base N qual (defScope st) f cdv A outer s H E).nox (defBody st) t ∧ t { nx := fun _ H' => Q .non H', rt := Q } (start N vs) H) : FnR P w K mg base CX0 (k + 1) f sp :=
  okR F S hb len fun cdv A outer s H vs Q E hr h => let ⟨t, a, b⟩ := hbody cdv A outer s H vs Q E hr h; ⟨t, a.nox, b⟩
end
section
variable {X : Cx} {CX : CXT} {k : Nat} {f C : Addr} {sp : Sp} {E : XK} {x m : Str} {p pos apos : Pos} {e o : Expr} {es : List Expr} {ta : TE} {t : TA}
def tCallR (sp : Sp) (E : XK) (t : TA) : TE := fun σ H Q => t σ H fun vs H1 => sp vs H1 Q E
theorem pe_callR (F : FnR X.prog X.w X.K X.mg X.base CX k f sp) (hr : Room k X.A) (gd : X.mg x = some (.ref f) ∧ PySem.W.keepIn X.K (.ref f) = true) (hg : Gl X x) (hx : Passes CX X E) (ha : PA X (e :: es) t)
    (hdb : (x == ("__debug__" : Str)) = false := by decide) (he : starEach (e :: es) X.env = (false, eval e X.env) :: starEach es X.env := by rfl) (hpl : (backTo pos (starEach es X.env)).any (·.1) = false := by rfl) :
    PE X (.Call (.Name x p) (e :: es) [] pos) (tCallR sp E t) := by
  refine ⟨fun pins s σ H Q I h => ?_⟩
  refine wpAny_Call_Name_kw (ld_glob I hg gd.1 ?_ hdb)
  refine PySem.W.callWith_K (h₀ := X.base) I.ok.mod.kin gd.2 (thn (ha.run pos pins s σ H _ I h) fun us s1 ⟨vs, H1, I1, r, q⟩ => ⟨I1.kIn, ?_⟩) he hpl
  exact wpAny_call (run_fnR F hr hx I1 r q)
/-- C.m(e, ..) -/
def tClsR (C : Addr) (sp : Sp) (E : XK) (ta : TE) (t : TA) : TE := fun σ H Q => ta σ H fun x H1 => x = .ref C ∧ t σ H1 fun vs H2 => sp vs H2 Q E
theorem pe_clsR {mc : Value} {pl : Sem Bool} (he : PE X o ta) (r : ClX.CRead X.K C mc) (c : ClX.CVal X.K C mc m (.ref f) (.ref f)) (hk : PySem.W.keepIn X.K (.ref f) = true) (F : FnR X.prog X.w X.K X.mg X.base CX k f sp) (hr : Room k X.A) (hx : Passes CX X E) (ha : PA X (e :: es) t)
    (hst : starEach (e :: es) X.env = (false, eval e X.env) :: starEach es X.env := by rfl) (hpl : (backTo pos (starEach es X.env)).any (·.1) = false := by rfl)
    (ht : eval (.Call (.Attribute o m apos) (e :: es) [] pos) X.env = (do
      let ov ← eval o X.env
      standAt apos.atName
      let (f, first) ← holding [ov] (getMethod ov m pl)
      callWith pos f first (backTo pos (starEach (e :: es) X.env)) (backToKw pos (keywordEach [] X.env))) := by rfl) :
    PE X (.Call (.Attribute o m apos) (e :: es) [] pos) (tClsR C sp E ta t) := by
  refine ⟨fun pins s σ H Q I h => ?_⟩
  refine PySem.W.methodCall_KW (pl := pl) (thn (he.run pins s σ H _ I h) fun u s1 ⟨x, H1, I1, rx, ex, q⟩ => ?_) ht
  subst ex
  obtain rfl : u = Value.ref C := rx
  refine PySem.W.method_cls I1.kIn r.ga (ClX.getcval_ok I1 r c fun s2 I2 => ?_)
  refine PySem.W.callWith_K (first := []) (h₀ := X.base) I.ok.mod.kin hk (thn (ha.run pos pins s2 σ H1 _ I2 q) fun us s3 ⟨vs, H2, I3, rv, q2⟩ => ⟨I3.kIn, ?_⟩) hst hpl
  exact wpAny_call (run_fnR F hr hx I3 rv q2)
end
/-! ### kinds of values -/
/-- an int, a bool, or a thing whose type is no int -/
def Kd (K : Frag) (H : Hp) (v : V) : Prop := (∃ i, v = .int i) ∨ (∃ b, v = .bl b) ∨ ((∀ i, v ≠ .int i) ∧ ∃ T, TyX K H v (.type T) ∧ kitB T "int" = some false)
/-- an int from lo to hi -/
def okInt (v : V) (lo hi : Int) : Bool := match v with
  | .int i => decide (lo ≤ i) && decide (i ≤ hi)
  | _ => false
theorem Kd.int {K : Frag} {H : Hp} (i : Int) : Kd K H (.int i) := .inl ⟨i, rfl⟩
theorem Kd.bl {K : Frag} {H : Hp} (b : Bool) : Kd K H (.bl b) := .inr (.inl ⟨b, rfl⟩)
theorem Kd.non {K : Frag} {H : Hp} : Kd K H .non := .inr (.inr ⟨fun _ => nofun, "NoneType", .base .non, by decide +kernel⟩)
theorem Kd.str {K : Frag} {H : Hp} (x : Str) : Kd K H (.str x) := .inr (.inr ⟨fun _ => nofun, "str", .base (.str x), by decide +kernel⟩)
theorem Kd.lst {K : Frag} {H : Hp} {a : Addr} {xs : List V} (e : H a = some (.lst xs)) : Kd K H (.ref a) := .inr (.inr ⟨fun _ => nofun, "list", .base (.lst e), by decide +kernel⟩)
theorem Kd.tup {K : Frag} {H : Hp} {a : Addr} {xs : List V} (e : H a = some (.tup xs)) : Kd K H (.ref a) := .inr (.inr ⟨fun _ => nofun, "tuple", .base (.tup e), by decide +kernel⟩)
theorem Kd.dK {K : Frag} {H : Hp} {a : Addr} {kvs : List (Key × V)} (e : H a = some (.dK kvs)) : Kd K H (.ref a) := .inr (.inr ⟨fun _ => nofun, "dict", .base (.dK e), by decide +kernel⟩)
end FT
/-! What the walk asks of the written part, behind the top. -/
namespace FT
open PySem PySem.Spec PyProof.Rows L2
open PySem.W (Frag)
abbrev gA (K : Frag) (x : Str) : Addr := He.ga K x
abbrev mA (K : Frag) (C m : Str) : Addr := He.ma K (He.ga K C) m
abbrev cInt (mg : Str → Option Value) (x : Str) (i : Int) : Prop := ∃ t, mg x = some (.int i t)
structure Txt (P : Program) (K : Frag) (mg : Str → Option Value) : Prop where
  nIsi : mg "isinstance" = none
  nInt : mg "int" = none
  nBool : mg "bool" = none
  nLen : mg "len" = none
  nMax : mg "max" = none
  nRange : mg "range" = none
  nList : mg "list" = none
  nTuple : mg "tuple" = none
  nAll : mg "all" = none
  nAbs : mg "abs" = none
  nRepr : mg "repr" = none
  nVE : mg "ValueError" = none
  cMH : cInt mg "MOST_HEAP" 1000000000000000000000000000000
  cMN : cInt mg "MOST_NUMBER" 400
  cMM : cInt mg "MOST_MODULUS" 6
  cMP : cInt mg "MOST_PARTS" 1000
  cMW : cInt mg "MOST_WORTH" 400
  gIsInt : GD K mg "is_integer"
  fIsInt : FnT K "is_integer" "is_integer" sIsInt (gA K "is_integer")
  gIsHeap : GD K mg "is_heap"
  fIsHeap : FnT K "is_heap" "is_heap" sIsHeap (gA K "is_heap")
  gNeedHeap : GD K mg "need_heap"
  fNeedHeap : FnT K "need_heap" "need_heap" sNeedHeap (gA K "need_heap")
  gCommon : GD K mg "common_multiple"
  fCommon : FnT K "common_multiple" "common_multiple" sCommon (gA K "common_multiple")
  gNeedPart : GD K mg "need_part"
  fNeedPart : FnT K "need_part" "need_part" sNeedPart (gA K "need_part")
  bad : BadTxt P K mg (gA K "BadRule") (mA K "BadRule" "__init__")
  fRested : FnT K "__init__" "Rested.__init__" sRested (mA K "Rested" "__init__")
  fSized : FnT K "__init__" "Sized.__init__" sSized (mA K "Sized" "__init__")
  mgRested : mg "Rested" = some (.ref (gA K "Rested"))
  rdRested : ClX.CRead K (gA K "Rested") (.type "type")
  cvRested : ClX.CVal K (gA K "Rested") (.type "type") "__init__" (.ref (mA K "Rested" "__init__")) (.ref (mA K "Rested" "__init__"))
  kpRested : PySem.W.keepIn K (.ref (mA K "Rested" "__init__")) = true
  mgSized : mg "Sized" = some (.ref (gA K "Sized"))
  rdSized : ClX.CRead K (gA K "Sized") (.type "type")
  cvSized : ClX.CVal K (gA K "Sized") (.type "type") "__init__" (.ref (mA K "Sized" "__init__")) (.ref (mA K "Sized" "__init__"))
  kpSized : PySem.W.keepIn K (.ref (mA K "Sized" "__init__")) = true
  fFixed : ∃ fd, FunD K "__init__" "Fixed.__init__" (defArgs sFixed) (defBody sFixed) (defScope sFixed) [.int 0, .int 1, .int 0] [] (mA K "Fixed" "__init__") fd
  mgFixed : mg "Fixed" = some (.ref (gA K "Fixed"))
  clFixed : Cls K (gA K "Fixed")
  mkFixed : Mk K (gA K "Fixed") (mA K "Fixed" "__init__")
  naSize : NoAttr K (gA K "Fixed") "size"
  naLeave : NoAttr K (gA K "Fixed") "leave"
  naRest : NoAttr K (gA K "Fixed") "rest"
  naModulus : NoAttr K (gA K "Fixed") "modulus"
  naStart : NoAttr K (gA K "Fixed") "start"
  naReach : NoAttr K (gA K "Fixed") "reach"
  fStands : FnT K "stands_at" "Fixed.stands_at" sStands (mA K "Fixed" "stands_at")
  mStands : Meth K (gA K "Fixed") "stands_at" (mA K "Fixed" "stands_at")
  fLeft : FnT K "left_at" "Fixed.left_at" sLeft (mA K "Fixed" "left_at")
  mLeft : Meth K (gA K "Fixed") "left_at" (mA K "Fixed" "left_at")
  icFixed : C8.InsC K (gA K "Fixed")
  fFAinit : FnT K "__init__" "FreeAnswer.__init__" sFAinit (mA K "FreeAnswer" "__init__")
  mgFree : mg "Free" = some (.ref (gA K "Free"))
  clFree : Cls K (gA K "Free")
  mkFree : Mk K (gA K "Free") (mA K "FreeAnswer" "__init__")
  naFRule : NoAttr K (gA K "Free") "rule"
  fFBool : FnT K "__bool__" "Free.__bool__" sFreeBool (mA K "Free" "__bool__")
  bFree : PySem.W.findIn K (.ref (gA K "Free")) "__bool__" = some (some (.ref (mA K "Free" "__bool__")))
  iFree : PySem.W.isFn K (.ref (mA K "Free" "__bool__")) = true
  mgBarred : mg "Barred" = some (.ref (gA K "Barred"))
  clBarred : Cls K (gA K "Barred")
  mkBarred : Mk K (gA K "Barred") (mA K "Barred" "__init__")
  naBRule : NoAttr K (gA K "Barred") "rule"
  naBHeap : NoAttr K (gA K "Barred") "heap"
  naBLeft : NoAttr K (gA K "Barred") "left"
  fBBool : FnT K "__bool__" "Barred.__bool__" sBarBool (mA K "Barred" "__bool__")
  bBarred : PySem.W.findIn K (.ref (gA K "Barred")) "__bool__" = some (some (.ref (mA K "Barred" "__bool__")))
  iBarred : PySem.W.isFn K (.ref (mA K "Barred" "__bool__")) = true
  fBInit : ∃ (oc : Value) (od : Option Addr) (doc pm : Value) (cda cc : Addr) (ct : Value) (osl : Array (Option Value)),
    K.lookup (mA K "Barred" "__init__") = some ⟨oc, od, .func (PySem.W.fnX "__init__" "Barred.__init__" (defArgs sBarInit) (defBody sBarInit) (defScope sBarInit) [(("__class__" : Str), cc)] .none .none doc pm none (.ref cda) ct), osl⟩ ∧
    PySem.W.codeIn K (.ref cda) "Barred.__init__" = true ∧ (∃ (cl : Value) (cld : Option Addr) (csl : Array (Option Value)), K.lookup cc = some ⟨cl, cld, .cell (some (.ref (gA K "Barred"))), csl⟩) ∧
    SupTxt P K mg (gA K "Barred") (gA K "Barred") (mA K "Barred" "__init__") cda cc (mA K "FreeAnswer" "__init__") "__init__" "self"
      (PySem.W.fnX "__init__" "Barred.__init__" (defArgs sBarInit) (defBody sBarInit) (defScope sBarInit) [(("__class__" : Str), cc)] .none .none doc pm none (.ref cda) ct)
  gIsBarred : GD K mg "is_barred"
  fIsBarred : FnT K "is_barred" "is_barred" sIsBarred (gA K "is_barred")
  gSettled : GD K mg "settled_from"
  fSettled : FnT K "settled_from" "settled_from" sSettled (gA K "settled_from")
  gBars : GD K mg "bars"
  fBars : ∃ fd, FunD K "bars" "bars" (defArgs sBars) (defBody sBars) (defScope sBars) [.int 0] [] (gA K "bars") fd
  gFree : GD K mg "free"
  fFree : FnT K "free" "free" sFree (gA K "free")
  gIsFree : GD K mg "is_free"
  fIsFree : FnT K "is_free" "is_free" sIsFree (gA K "is_free")
  gLeast : GD K mg "least_leave"
  fLeast : ∃ fd, FunD K "least_leave" "least_leave" (defArgs sLeast) (defBody sLeast) (defScope sLeast) [.int 0, .int 1] [] (gA K "least_leave") fd
  gAreW : GD K mg "are_worths"
  fAreW : FnT K "are_worths" "are_worths" sAreW (gA K "are_worths")
  gShort : GD K mg "shortest_turn"
  fShort : FnT K "shortest_turn" "shortest_turn" sShort (gA K "shortest_turn")
  gLForm : GD K mg "least_form"
  fLForm : FnT K "least_form" "least_form" sLForm (gA K "least_form")
  fTinit : FnT K "__init__" "Table.__init__" sTinit (mA K "Table" "__init__")
  mgTable : mg "Table" = some (.ref (gA K "Table"))
  clTable : Cls K (gA K "Table")
  mkTable : Mk K (gA K "Table") (mA K "Table" "__init__")
  naBegin : NoAttr K (gA K "Table") "begin"
  naPeriod : NoAttr K (gA K "Table") "period"
  naNumbers : NoAttr K (gA K "Table") "numbers"
  fWorthAt : FnT K "worth_at" "Table.worth_at" sWorthAt (mA K "Table" "worth_at")
  mWorthAt : Meth K (gA K "Table") "worth_at" (mA K "Table" "worth_at")
  gPen : GD K mg "_law_pen"
  fPen : FnT K "_law_pen" "_law_pen" sPen (gA K "_law_pen")
  gDraw : GD K mg "_law_draw"
  fDraw : FnT K "_law_draw" "_law_draw" sDraw (gA K "_law_draw")
  gPick : GD K mg "_law_pick"
  fPick : FnT K "_law_pick" "_law_pick" sPick (gA K "_law_pick")
  gLLeft : GD K mg "_law_left"
  fLLeft : FnT K "_law_left" "_law_left" sLLeft (gA K "_law_left")
  gTold : GD K mg "_law_told"
  fTold : FnT K "_law_told" "_law_told" sTold (gA K "_law_told")
  gAt : GD K mg "_law_at"
  fAt : FnT K "_law_at" "_law_at" sAt (gA K "_law_at")
  gWhole : GD K mg "_law_whole"
  fWhole : FnT K "_law_whole" "_law_whole" sWhole (gA K "_law_whole")
  gEnd : GD K mg "_law_end"
  fEnd : FnT K "_law_end" "_law_end" sEnd (gA K "_law_end")
  gLBarred : GD K mg "_law_is_barred"
  fLBarred : FnT K "_law_is_barred" "_law_is_barred" sLBarred (gA K "_law_is_barred")
  gDue : GD K mg "_law_due"
  fDue : FnT K "_law_due" "_law_due" sDue (gA K "_law_due")
  gHeard : GD K mg "_law_heard"
  fHeard : FnT K "_law_heard" "_law_heard" sHeard (gA K "_law_heard")
  gRight : GD K mg "_law_right"
  fRight : FnT K "_law_right" "_law_right" sRight (gA K "_law_right")
  gRefused : GD K mg "_law_refused_right"
  fRefused : FnT K "_law_refused_right" "_law_refused_right" sRefused (gA K "_law_refused_right")
  fLaw : FnT K "law" "law" sLaw (gA K "law")
  mgFE : mg "FreeError" = some (.ref (gA K "FreeError"))
  exFE : PySem.W.exmOne K (.ref (gA K "BadRule")) (.ref (gA K "FreeError")) = some true
  isB : PySem.W.kitOne K (.ref (gA K "BadRule")) (.ref (gA K "BadRule")) = some true
  isV : PySem.W.kitOne K (.ref (gA K "BadRule")) (.type "ValueError") = some true
end FT
/-! The walk: checks, need_part. -/
namespace FT
open PySem PySem.Spec PyProof.Rows L2
open PySem.W (Frag)
/-! ### promises -/
def spIsInt (K : Frag) : Sp := fun vs H Q _ => ∃ (v : V) (lo hi : Int), vs = [v, .int lo, .int hi] ∧ Kd K H v ∧ Q (.bl (okInt v lo hi)) H
def spIsHeap (K : Frag) : Sp := fun vs H Q _ => ∃ v : V, vs = [v] ∧ Kd K H v ∧ Q (.bl (okInt v 0 1000000000000000000000000000000)) H
def spNeedHeap : Sp := fun vs H Q _ => ∃ n : Nat, vs = [.int n] ∧ n ≤ 1000000000000000000000000000000 ∧ Q .non H
def spCommon : Sp := fun vs H Q _ => ∃ a b : Nat, vs = [.int a, .int b] ∧ 0 < a ∧ 0 < b ∧ ∀ c : Nat, 0 < c → c % a = 0 → c % b = 0 → c ≤ a * b → Q (.int c) H
def spNeedPart (K : Frag) : Sp := fun vs H Q E => ∃ (v : V) (lo hi : Int) (z : Str), vs = [v, .int lo, .int hi, .str z] ∧ Kd K H v ∧ (okInt v lo hi = true → Q .non H) ∧
  (okInt v lo hi = false → ∀ d : Addr, H d = none → E (.ref (gA K "BadRule")) (some d) (upd H d (.xd [(("part" : Str), .str z)])))
theorem pss_never {X : Cx} {st : List Stmt} : PSs X st (fun _ _ _ => False) := ⟨fun _ _ _ _ _ _ h => h.elim⟩
theorem ps_never {X : Cx} {st : Stmt} : PS X st (fun _ _ _ => False) := ⟨fun _ _ _ _ _ _ h => h.elim⟩
theorem imod (a b : Nat) : ((a:Int) % (b:Int)) = ((a % b : Nat) : Int) := rfl
theorem idiv (a b : Nat) : ((a:Int) / (b:Int)) = ((a / b : Nat) : Int) := rfl
theorem dec_int {a b : Int} : decide (V.int a = V.int b) = decide (a = b) := by
  by_cases h : a = b
  · subst h; simp
  · rw [decide_eq_false h]; exact decide_eq_false fun q => h (V.int.inj q)
theorem relInt {i : Int} {t : Tok} : RelV (.int i) (.int i t) := ⟨t, rfl⟩
section
variable {P : Program} {w : World} {K : Frag} {mg : Str → Option Value} {base : Heap}
theorem ok_isInt (T : Txt P K mg) : FnR P w K mg base CX0 1 (gA K "is_integer") (spIsInt K) := by
  refine okR0 T.fIsInt scIsInt (fun _ _ _ _ _ _ us hl => match us, hl with | [_, _, _], _ => rfl) (fun vs H Q E h => ?_) (fun cdv A outer s H vs Q E hr h => ?_)
  · obtain ⟨v, lo, hi, rfl, _⟩ := h
    rfl
  · obtain ⟨v, lo, hi, rfl, hk, q⟩ := h
    refine ⟨_, pss_one (ps_ret (pe_and (pe_callB call_isi (by rfl) T.nIsi (by decide +kernel) (pa_cons (pv 0) (pa_cons (pe_bltn (v := .ty "int") (u := .type "int") (by rfl) T.nInt (by decide +kernel) rfl) pa_nil)))
      (pe_and (pe_not (pe_callB call_isi (by rfl) T.nIsi (by decide +kernel) (pa_cons (pv 0) (pa_cons (pe_bltn (v := .ty "bool") (u := .type "bool") (by rfl) T.nBool (by decide +kernel) rfl) pa_nil))))
        (pe_one (pe_chain op_le op_le (pv 1) (pv 0) (pv 2)))))), ?_⟩
    have k1 : ∀ (T : String) (b : Bool), kitB T "int" = some b → PySem.W.kitOne K (.type T) (.type "int") = some b := fun T b e => kit_ty e
    have k2 : ∀ (T : String) (b : Bool), kitB T "bool" = some b → PySem.W.kitOne K (.type T) (.type "bool") = some b := fun T b e => kit_ty e
    rcases hk with ⟨i, rfl⟩ | ⟨b, rfl⟩ | ⟨hn, U, hT, hb⟩
    · refine ⟨_, rfl, _, _, _, _, true, rfl, .ty _, .base (.int i), k1 _ _ (by decide +kernel), true, rfl, ?_⟩
      rw [if_pos rfl]
      refine ⟨_, rfl, _, _, _, _, false, rfl, .ty _, .base (.int i), k2 _ _ (by decide +kernel), _, rfl, _, rfl, ?_⟩
      rw [if_pos (show (!false) = true from rfl)]
      refine ⟨_, rfl, _, rfl, _, _, rfl, rfl, _, rfl, ?_⟩
      by_cases c : lo ≤ i
      · rw [if_pos (decide_eq_true c)]
        refine ⟨_, rfl, _, _, rfl, rfl, ?_⟩
        have e : okInt (.int i) lo hi = decide (i ≤ hi) := by simp [okInt, c]
        rw [e] at q; exact q
      · rw [if_neg (by simp [c])]
        have e : okInt (.int i) lo hi = false := by simp [okInt, c]
        rw [e] at q; exact q
    · refine ⟨_, rfl, _, _, _, _, true, rfl, .ty _, .base (.bl b), k1 _ _ (by decide +kernel), true, rfl, ?_⟩
      rw [if_pos rfl]
      refine ⟨_, rfl, _, _, _, _, true, rfl, .ty _, .base (.bl b), k2 _ _ (by decide +kernel), _, rfl, _, rfl, ?_⟩
      rw [if_neg (by decide)]
      exact q
    · have e : okInt v lo hi = false := by
        cases v <;> first | rfl | exact absurd rfl (hn _)
      refine ⟨_, rfl, _, _, _, _, false, rfl, .ty _, hT, k1 _ _ hb, false, rfl, ?_⟩
      rw [if_neg (by decide)]
      rw [e] at q; exact q
/-- .. as a call -/
theorem ok_isHeap (T : Txt P K mg) : FnR P w K mg base CX0 2 (gA K "is_heap") (spIsHeap K) := by
  refine okR0 T.fIsHeap scIsHeap (fun _ _ _ _ _ _ us hl => match us, hl with | [_], _ => rfl) (fun vs H Q E h => ?_) (fun cdv A outer s H vs Q E hr h => ?_)
  · obtain ⟨v, rfl, _⟩ := h
    rfl
  · obtain ⟨v, rfl, hk, q⟩ := h
    obtain ⟨t, ht⟩ := T.cMH
    exact ⟨_, pss_one (ps_ret (pe_callR (ok_isInt T) hr T.gIsInt (by rfl) pass0 (pa_cons (pv 0) (pa_cons pe_int (pa_cons (pe_glob (by rfl) ht relInt) pa_nil))))), _, rfl, _, _, _, rfl, hk, q⟩
theorem ok_needHeap (T : Txt P K mg) : FnR P w K mg base CX0 3 (gA K "need_heap") spNeedHeap := by
  refine okR0 T.fNeedHeap scNeedHeap (fun _ _ _ _ _ _ us hl => match us, hl with | [_], _ => rfl) (fun vs H Q E h => ?_) (fun cdv A outer s H vs Q E hr h => ?_)
  · obtain ⟨v, rfl, _⟩ := h
    rfl
  · obtain ⟨n, rfl, hn, q⟩ := h
    refine ⟨_, pss_one (ps_if (pt_not (pt_val (pe_callR (ok_isHeap T) hr T.gIsHeap (by rfl) pass0 (pa_cons (pv 0) pa_nil)))) pss_never pss_nil), ?_⟩
    have e : okInt (.int (n : Int)) 0 1000000000000000000000000000000 = true := by simp [okInt]; omega
    refine ⟨_, rfl, _, rfl, Kd.int _, _, rfl, ?_⟩
    rw [e]
    exact iteF q
theorem ok_common (T : Txt P K mg) : FnR P w K mg base CX0 1 (gA K "common_multiple") spCommon := by
  refine okR0 T.fCommon scCommon (fun _ _ _ _ _ _ us hl => match us, hl with | [_, _], _ => rfl) (fun vs H Q E h => ?_) (fun cdv A outer s H vs Q E hr h => ?_)
  · obtain ⟨a, b, rfl, _⟩ := h
    rfl
  · obtain ⟨a, b, rfl, ha, hb, q⟩ := h
    refine ⟨_, pss_cons (ps_set (i := 2) scCommon.nd rfl (Or.inl rfl) (pv 0)) (pss_cons (ps_while PassesOwn.never (pt_cmpR op_ne (pe_op op_mod (pv 2) (pv 1)) pe_int (nomark _)) (pss_one (ps_set (i := 2) scCommon.nd rfl (Or.inl rfl) (pe_op op_add (pv 2) (pv 0)))))
      (pss_one (ps_ret (pv 2)))), ?_⟩
    refine ⟨_, rfl, while_by (fun σ H' => ∃ c : Nat, σ = [some (.int a), some (.int b), some (.int c)] ∧ H' = H ∧ 0 < c ∧ c % a = 0 ∧ c ≤ a * b) (fun σ _ => match σ with | [_, _, some (.int c)] => a * b - c.toNat | _ => 0)
      ⟨a, rfl, rfl, ha, Nat.mod_self a, Nat.le_mul_of_pos_right a hb⟩ ?_ ?_⟩
    · rintro σ H' ⟨c, rfl, rfl, c0, c1, c2⟩
      refine ⟨_, rfl, _, rfl, _, _, rfl, rfl, (by show (0 : Int) < b; omega), rfl, _, rfl, ?_⟩
      show if (!decide (V.int ((c : Int) % b) = V.int 0)) = true then _ else _
      rw [dec_int, imod]
      by_cases hz : c % b = 0
      · rw [hz]
        exact iteF ⟨_, rfl, q c c0 c1 hz c2⟩
      · rw [decide_eq_false (show ¬ ((c % b : Nat) : Int) = 0 by omega)]
        have lt : c < a * b := by
          rcases Nat.lt_or_eq_of_le c2 with l | l
          · exact l
          · rw [l, Nat.mul_mod_left] at hz; exact absurd rfl hz
        have le : c + a ≤ a * b := by
          have e : c = a * (c / a) := by have := Nat.div_add_mod c a; omega
          have l2 : c / a < b := by
            rw [e] at lt
            exact Nat.lt_of_mul_lt_mul_left lt
          have : a * (c / a + 1) ≤ a * b := Nat.mul_le_mul_left a l2
          rw [Nat.mul_add, Nat.mul_one] at this
          omega
        refine iteT ⟨_, rfl, _, rfl, _, _, rfl, rfl, ⟨c + a, rfl, rfl, by omega, ?_, le⟩, ?_⟩
        · rw [Nat.add_mod_right]; exact c1
        · show a * b - ((c : Int) + a).toNat < a * b - (c : Int).toNat
          omega
    · rintro σ H' Q1 Q2 hm ⟨x, e, y, e2, i, j, e3, e4, e5, e6, k, e7, e8⟩
      exact ⟨x, e, y, e2, i, j, e3, e4, e5, e6, k, e7, hm _ _ e8⟩
theorem ok_needPart (T : Txt P K mg) : FnR P w K mg base (L2.CX P w) 2 (gA K "need_part") (spNeedPart K) := by
  refine okR T.fNeedPart scNeedPart (fun _ _ _ _ _ _ us hl => match us, hl with | [_, _, _, _], _ => rfl) (fun vs H Q E h => ?_) (fun cdv A outer s H vs Q E hr h => ?_)
  · obtain ⟨v, lo, hi, z, rfl, _⟩ := h
    rfl
  · obtain ⟨v, lo, hi, z, rfl, hk, q1, q2⟩ := h
    refine ⟨_, pss_one (ps_if (pt_not (pt_val (pe_callR (ok_isInt T) hr T.gIsInt (by rfl) pass0 (pa_cons (pv 0) (pa_cons (pv 1) (pa_cons (pv 2) pa_nil))))))
      (pss_one (ps_raiseBad rfl T.bad hr (takes_of rfl rfl rfl rfl) (by exact (pa_cons (pv 3) pa_nil)))) pss_nil), ?_⟩
    refine ⟨_, rfl, _, rfl, _, rfl, _, _, _, rfl, hk, _, rfl, ?_⟩
    cases c : okInt v lo hi with
    | true => exact iteF (q1 c)
    | false => exact iteT ⟨_, rfl, _, rfl, fun d hd => q2 c d hd⟩
end
end FT
/-! The walk: Fixed made and asked. -/
namespace FT
open PySem PySem.Spec PyProof.Rows L2
open PySem.W (Frag)
/-- all as it was, but at x -/
abbrev SmB (x : Addr) (H H' : Hp) : Prop := ∀ b o, b ≠ x → H b = some o → H' b = some o
abbrev fRule (t l r m : V) (s c : V) : List (Str × V) := [("size", t), ("leave", l), ("rest", r), ("modulus", m), ("start", s), ("reach", c)]
structure RuleAt (K : Frag) (H : Hp) (x : Addr) (t r m l : Nat) : Prop where
  at_ : ∃ dx, H x = some (.ins (gA K "Fixed") dx (fRule (.int t) (.int l) (.int r) (.int m) (.int ((t : Int) + l)) (.int t)))
  t1 : 1 ≤ t
  t4 : t ≤ 400
  rm : r < m
  m6 : m ≤ 6
  l4 : l ≤ 400
theorem RuleAt.same {K : Frag} {H H' : Hp} {x : Addr} {t r m l : Nat} (R : RuleAt K H x t r m l) (s : Same H H') : RuleAt K H' x t r m l :=
  ⟨let ⟨dx, e⟩ := R.at_; ⟨dx, s _ _ e⟩, R.t1, R.t4, R.rm, R.m6, R.l4⟩
/-- an error with a part leaves -/
abbrev BadX (K : Frag) (H : Hp) (x : Addr) (E : XK) (z : Str) : Prop := ∀ d H', SmB x H H' → H d = none → H' d = some (.xd [(("part" : Str), .str z)]) → E (.ref (gA K "BadRule")) (some d) H'
abbrev KdA (K : Frag) (H : Hp) (x : Addr) (v : V) : Prop := ∀ H', SmB x H H' → Kd K H' v
def spSized (K : Frag) : Sp := fun vs H Q E => ∃ (x dx : Addr) (v : V) (l : Nat), vs = [.ref x, v, .int l] ∧ H x = some (.ins (gA K "Fixed") dx []) ∧ Kd K H v ∧ l ≤ 400 ∧
  (okInt v 1 400 = false → BadX K H x E "size") ∧ (okInt v 1 400 = true → ∀ H', H' x = some (.ins (gA K "Fixed") dx [("size", v), ("leave", .int l)]) → SmB x H H' → (∀ b, b ≠ x → H b = none → H' b = none) → Q .non H')
def spRested (K : Frag) : Sp := fun vs H Q E => ∃ (x dx : Addr) (vr vm a b : V), vs = [.ref x, vr, vm] ∧ H x = some (.ins (gA K "Fixed") dx [("size", a), ("leave", b)]) ∧ Kd K H vr ∧ Kd K H vm ∧
  (okInt vm 1 6 = false → BadX K H x E "modulus") ∧ (∀ m : Int, vm = .int m → okInt vm 1 6 = true → okInt vr 0 (m - 1) = false → BadX K H x E "rest") ∧
  (∀ m : Int, vm = .int m → okInt vm 1 6 = true → okInt vr 0 (m - 1) = true → ∀ H', H' x = some (.ins (gA K "Fixed") dx [("size", a), ("leave", b), ("rest", vr), ("modulus", vm)]) → SmB x H H' → Q .non H')
def spFixed (K : Frag) : Sp := fun vs H Q E => ∃ (x dx : Addr) (v vr vm : V) (l : Nat), vs = [.ref x, v, vr, vm, .int l] ∧ H x = some (.ins (gA K "Fixed") dx []) ∧ KdA K H x v ∧ KdA K H x vr ∧ KdA K H x vm ∧ l ≤ 400 ∧
  (okInt v 1 400 = false → BadX K H x E "size") ∧ (okInt v 1 400 = true → okInt vm 1 6 = false → BadX K H x E "modulus") ∧
  (∀ m : Int, okInt v 1 400 = true → vm = .int m → okInt vm 1 6 = true → okInt vr 0 (m - 1) = false → BadX K H x E "rest") ∧
  (∀ t r m : Nat, v = .int t → vr = .int r → vm = .int m → 1 ≤ t → t ≤ 400 → r < m → m ≤ 6 → ∀ H', RuleAt K H' x t r m l → SmB x H H' → Q .non H')
def spStands (K : Frag) : Sp := fun vs H Q _ => ∃ (x : Addr) (t r m l n : Nat), vs = [.ref x, .int n] ∧ RuleAt K H x t r m l ∧ n ≤ 1000000000000000000000000000000 ∧ Q (.bl (decide (t + l ≤ n ∧ n % m = r))) H
def spLeft (K : Frag) : Sp := fun vs H Q _ => ∃ (x : Addr) (t r m l n : Nat), vs = [.ref x, .int n] ∧ RuleAt K H x t r m l ∧ n ≤ 1000000000000000000000000000000 ∧ t + l ≤ n ∧ n % m = r ∧ Q (.int ((n - t : Nat) : Int)) H
theorem okI {v : V} {lo hi : Int} (h : okInt v lo hi = true) : ∃ i, v = .int i ∧ lo ≤ i ∧ i ≤ hi := by
  cases v <;> first | exact ⟨_, rfl, by simpa [okInt] using h⟩ | exact Bool.noConfusion h
theorem putF_new' {f : Str} {v : V} : ∀ {fs : List (Str × V)}, (∀ p ∈ fs, p.1 ≠ f) → putF f v fs = fs ++ [(f, v)]
  | [], _ => rfl
  | (k, u) :: r, h => by
    have e : ¬ k = f := h (k, u) List.mem_cons_self
    show (if k = f then _ else _) = _
    rw [if_neg e, putF_new' fun p hp => h p (List.mem_cons_of_mem _ hp)]
    rfl
theorem putF_new {f : Str} {v : V} {fs : List (Str × V)} (h : (fs.map (·.1)).all (fun k => !decide (k = f)) = true) : putF f v fs = fs ++ [(f, v)] := putF_new' fun p hp q => by
  have := List.all_eq_true.mp h p.1 (List.mem_map_of_mem hp)
  rw [q] at this
  simp at this
section
variable {P : Program} {w : World} {K : Frag} {mg : Str → Option Value} {base : Heap}
theorem thru {N : List Str} {q : Str} {sc : Scope} {f : Addr} {cd : Value} {A : Around} {outer : List Env} {s : Shared} {H : Hp} {E : XK} : Passes (L2.CX P w) (cxOf (L2.CX P w) P w K mg base N q sc f cd A outer s H E) E :=
  passes_call (takes_of rfl rfl rfl rfl) fun _ _ _ _ h => h
theorem ok_sized (T : Txt P K mg) : FnR P w K mg base (L2.CX P w) 3 (mA K "Sized" "__init__") (spSized K) := by
  refine okR T.fSized scSized (fun _ _ _ _ _ _ us hl => match us, hl with | [_, _, _], _ => rfl) (fun vs H Q E h => ?_) (fun cdv A outer s H vs Q E hr h => ?_)
  · obtain ⟨_, _, _, _, rfl, _⟩ := h
    rfl
  · obtain ⟨x, dx, v, l, rfl, hx, hk, hl, q1, q2⟩ := h
    obtain ⟨tt, ht⟩ := T.cMN
    refine ⟨_, pss_cons (ps_expr (pe_callR (ok_needPart T) hr T.gNeedPart (by rfl) thru (pa_cons (pv 1) (pa_cons pe_int (pa_cons (pe_glob (by rfl) ht relInt) (pa_cons pe_str pa_nil))))))
      (pss_cons (ps_expr (pe_callR (ok_needPart T) hr T.gNeedPart (by rfl) thru (pa_cons (pv 2) (pa_cons pe_int (pa_cons (pe_glob (by rfl) ht relInt) (pa_cons pe_str pa_nil))))))
      (pss_cons (ps_fld (pv 0) (pv 1) rfl) (pss_one (ps_fld (pv 0) (pv 2) rfl)))), ?_⟩
    refine ⟨_, rfl, _, _, _, _, rfl, hk, fun c => ?_, fun c d hd => q1 c d _ (fun b o _ e => by rw [upd_ne (ne_of_none e hd)]; exact e) hd upd_same⟩
    refine ⟨_, rfl, _, _, _, _, rfl, Kd.int _, fun c2 => ?_, fun c2 => absurd c2 (by simp [okInt]; omega)⟩
    refine ⟨_, rfl, _, rfl, x, _, dx, _, rfl, hx, T.clFixed, T.naSize, (by show 0 < 1000; decide), ?_⟩
    refine ⟨_, rfl, _, rfl, x, _, dx, _, rfl, upd_same, T.clFixed, T.naLeave, (by show 1 < 1000; decide), ?_⟩
    refine q2 c _ ?_ (fun b o hb e => by rw [upd_ne hb, upd_ne hb]; exact e) fun b hb e => by rw [upd_ne hb, upd_ne hb]; exact e
    rw [upd_same, putF_new (by rfl)]
    rfl
theorem ok_rested (T : Txt P K mg) : FnR P w K mg base (L2.CX P w) 3 (mA K "Rested" "__init__") (spRested K) := by
  refine okR T.fRested scRested (fun _ _ _ _ _ _ us hl => match us, hl with | [_, _, _], _ => rfl) (fun vs H Q E h => ?_) (fun cdv A outer s H vs Q E hr h => ?_)
  · obtain ⟨_, _, _, _, _, _, rfl, _⟩ := h
    rfl
  · obtain ⟨x, dx, vr, vm, a, b, rfl, hx, hkr, hkm, q1, q2, q3⟩ := h
    obtain ⟨tt, ht⟩ := T.cMM
    refine ⟨_, pss_cons (ps_expr (pe_callR (ok_needPart T) hr T.gNeedPart (by rfl) thru (pa_cons (pv 2) (pa_cons pe_int (pa_cons (pe_glob (by rfl) ht relInt) (pa_cons pe_str pa_nil))))))
      (pss_cons (ps_expr (pe_callR (ok_needPart T) hr T.gNeedPart (by rfl) thru (pa_cons (pv 1) (pa_cons pe_int (pa_cons (pe_op op_sub (pv 2) pe_int) (pa_cons pe_str pa_nil))))))
      (pss_cons (ps_fld (pv 0) (pv 1) rfl) (pss_one (ps_fld (pv 0) (pv 2) rfl)))), ?_⟩
    refine ⟨_, rfl, _, _, _, _, rfl, hkm, fun c => ?_, fun c d hd => q1 c d _ (fun b o _ e => by rw [upd_ne (ne_of_none e hd)]; exact e) hd upd_same⟩
    obtain ⟨m, rfl, m1, m6⟩ := okI c
    refine ⟨_, rfl, _, rfl, _, _, rfl, rfl, _, _, _, _, rfl, hkr, fun c2 => ?_, fun c2 d hd => q2 m rfl c c2 d _ (fun b o _ e => by rw [upd_ne (ne_of_none e hd)]; exact e) hd upd_same⟩
    refine ⟨_, rfl, _, rfl, x, _, dx, _, rfl, hx, T.clFixed, T.naRest, (by show 2 < 1000; decide), ?_⟩
    refine ⟨_, rfl, _, rfl, x, _, dx, _, rfl, upd_same, T.clFixed, T.naModulus, ?_, ?_⟩
    · rw [putF_new (by rfl)]
      show 3 < 1000
      decide
    refine q3 m rfl c c2 _ ?_ (fun b o hb e => by rw [upd_ne hb, upd_ne hb]; exact e)
    rw [upd_same, putF_new (fs := [(("size" : Str), a), (("leave" : Str), b)]) (by rfl)]
    show some (HO.ins _ dx (putF _ _ ([(("size" : Str), a), (("leave" : Str), b), (("rest" : Str), vr)]))) = _
    rw [putF_new (by rfl)]
    rfl
theorem ok_fixedF (T : Txt P K mg) {fd : FuncData} (F : FunD K "__init__" "Fixed.__init__" (defArgs sFixed) (defBody sFixed) (defScope sFixed) [.int 0, .int 1, .int 0] [] (mA K "Fixed" "__init__") fd) : FnOk P w K mg base (L2.CX P w) 4 (mA K "Fixed" "__init__") fd ["self", "size", "rest", "modulus", "leave"] (spFixed K) := by
  refine F.ok scFixed (fun vs H Q E h => ?_) (fun cdv A outer s H vs Q E hr h => ?_)
  · obtain ⟨_, _, _, _, _, _, rfl, _⟩ := h
    rfl
  · obtain ⟨x, dx, v, vr, vm, l, rfl, hx, kv, kr, km, hl, q1, q2, q3, q4⟩ := h
    refine ⟨_, pss_cons (ps_expr (pe_clsR (pe_glob (v := .ref (gA K "Sized")) (by rfl) T.mgSized rfl) T.rdSized T.cvSized T.kpSized (ok_sized T) hr thru (pa_cons (pv 0) (pa_cons (pv 1) (pa_cons (pv 4) pa_nil)))))
      (pss_cons (ps_expr (pe_clsR (pe_glob (v := .ref (gA K "Rested")) (by rfl) T.mgRested rfl) T.rdRested T.cvRested T.kpRested (ok_rested T) hr thru (pa_cons (pv 0) (pa_cons (pv 2) (pa_cons (pv 3) pa_nil)))))
      (pss_cons (ps_fld (pv 0) (pe_op op_add (pv 1) (pv 4)) rfl) (pss_one (ps_fld (pv 0) (pv 1) rfl)))), ?_⟩
    refine ⟨rfl, _, rfl, _, rfl, _, rfl, x, dx, v, l, rfl, hx, kv H (fun _ _ _ e => e), hl, q1, fun c H1 h1 s1 f1 => ?_⟩
    obtain ⟨t, rfl, t1, t4⟩ := okI c
    have bad1 : ∀ z : Str, BadX K H x E z → BadX K H1 x E z := fun z h d H' s' n e => h d H' (fun b o hb q => s' b o hb (s1 b o hb q)) (by
      cases z1 : H d with
      | none => rfl
      | some o =>
        by_cases hd : d = x
        · rw [hd, h1] at n; cases n
        · rw [s1 d o hd z1] at n; cases n) e
    refine ⟨rfl, _, rfl, _, rfl, _, rfl, x, dx, vr, vm, _, _, rfl, h1, kr H1 s1, km H1 s1, fun c2 => bad1 _ (q2 c c2), fun m e c2 c3 => bad1 _ (q3 m c e c2 c3), fun m e c2 c3 H2 h2 s2 => ?_⟩
    subst e
    obtain ⟨m', em, m1, m6⟩ := okI c2
    cases em
    obtain ⟨r, rfl, r0, r1⟩ := okI c3
    refine ⟨_, rfl, _, rfl, _, _, rfl, rfl, _, rfl, x, _, dx, _, rfl, h2, T.clFixed, T.naStart, (by show 4 < 1000; decide), ?_⟩
    have p1 : putF ("start" : Str) (.int (t + l)) [(("size" : Str), V.int t), ("leave", .int l), ("rest", .int r), ("modulus", .int m)] = [(("size" : Str), V.int t), ("leave", .int l), ("rest", .int r), ("modulus", .int m), ("start", .int (t + l))] :=
      putF_new (by rfl)
    have p2 : putF ("reach" : Str) (.int t) [(("size" : Str), V.int t), ("leave", .int l), ("rest", .int r), ("modulus", .int m), ("start", .int (t + l))] = fRule (.int t) (.int l) (.int r) (.int m) (.int (t + l)) (.int t) :=
      putF_new (by rfl)
    refine ⟨_, rfl, _, rfl, x, _, dx, _, rfl, upd_same, T.clFixed, T.naReach, by rw [p1]; show 5 < 1000; decide, ?_⟩
    have et : t = ((t.toNat : Nat) : Int) := by omega
    have er : r = ((r.toNat : Nat) : Int) := by omega
    have em : m = ((m.toNat : Nat) : Int) := by omega
    refine q4 t.toNat r.toNat m.toNat (by rw [← et]) (by rw [← er]) (by rw [← em]) (by omega) (by omega) (by omega) (by omega) _ ⟨⟨dx, ?_⟩, by omega, by omega, by omega, by omega, hl⟩ fun b o hb e => by
      rw [upd_ne hb, upd_ne hb]; exact s2 b o hb (s1 b o hb e)
    rw [upd_same, ← et, ← er, ← em, p1, p2]
    all_goals rfl
theorem ok_fixed5 (T : Txt P K mg) : FnR P w K mg base (L2.CX P w) 4 (mA K "Fixed" "__init__") (spFixed K) := by
  obtain ⟨fd, F⟩ := T.fFixed
  obtain ⟨ds, hv, hb⟩ := F.binds1 (ps := ["self", "size", "rest", "modulus", "leave"]) 5 3 (by simp) rfl (fun _ _ _ _ _ _ _ us its hl h2 => match us, its, hl, h2 with | [_, _, _, _, _], [_, _, _], _, _ => ⟨_, rfl, rfl⟩)
  exact ((ok_fixedF T F).raw hb hv).imp fun vs H Q E h => by rw [show List.drop 3 [V.int 0, V.int 1, V.int 0] = [] from rfl, List.append_nil]; exact h
/-- .. without a leave -/
theorem ok_fixed4 (T : Txt P K mg) : FnR P w K mg base (L2.CX P w) 4 (mA K "Fixed" "__init__") (fun vs H Q E => spFixed K (vs ++ [.int 0]) H Q E) := by
  obtain ⟨fd, F⟩ := T.fFixed
  obtain ⟨ds, hv, hb⟩ := F.binds1 (ps := ["self", "size", "rest", "modulus", "leave"]) 4 2 (by simp) rfl (fun _ _ _ _ _ _ _ us its hl h2 => match us, its, hl, h2 with | [_, _, _, _], [_, _, _], _, _ => ⟨_, rfl, rfl⟩)
  exact (ok_fixedF T F).raw hb hv
theorem ok_stands (T : Txt P K mg) : FnR P w K mg base CX0 4 (mA K "Fixed" "stands_at") (spStands K) := by
  refine okR0 T.fStands scStands (fun _ _ _ _ _ _ us hl => match us, hl with | [_, _], _ => rfl) (fun vs H Q E h => ?_) (fun cdv A outer s H vs Q E hr h => ?_)
  · obtain ⟨_, _, _, _, _, _, rfl, _⟩ := h
    rfl
  · obtain ⟨x, t, r, m, l, n, rfl, R, hn, q⟩ := h
    obtain ⟨dx, hx⟩ := R.at_
    have r0 := R.rm
    refine ⟨_, pss_cons (ps_expr (pe_callR (ok_needHeap T) hr T.gNeedHeap (by rfl) pass0 (pa_cons (pv 1) pa_nil)))
      (pss_one (ps_ret (pe_and (pe_cmpR op_ge (pv 1) (pe_fld (pv 0) rfl) (nomark _)) (pe_one (pe_cmpR op_eq (pe_op op_mod (pv 1) (pe_fld (pv 0) rfl)) (pe_fld (pv 0) rfl) (nomark _)))))), ?_⟩
    refine ⟨_, rfl, n, rfl, hn, _, rfl, _, rfl, x, _, dx, _, _, rfl, hx, T.clFixed, T.naStart, rfl, _, _, rfl, rfl, _, rfl, ?_⟩
    by_cases c : t + l ≤ n
    · rw [decide_eq_true (show ((t : Int) + l) ≤ n by omega)]
      refine iteT ⟨_, rfl, _, rfl, x, _, dx, _, _, rfl, hx, T.clFixed, T.naModulus, rfl, _, _, rfl, rfl, (by show (0 : Int) < m; omega), _, rfl, x, _, dx, _, _, rfl, hx, T.clFixed, T.naRest, rfl, rfl, ?_⟩
      show Q (.bl (decide (V.int ((n : Int) % m) = V.int r))) H
      rw [dec_int, imod]
      have e : decide (t + l ≤ n ∧ n % m = r) = decide (((n % m : Nat) : Int) = r) := by
        by_cases z : n % m = r
        · rw [decide_eq_true (⟨c, z⟩ : _ ∧ _), decide_eq_true (by omega)]
        · rw [decide_eq_false (fun y => z y.2), decide_eq_false (by omega)]
      rw [e] at q; exact q
    · rw [decide_eq_false (show ¬ ((t : Int) + l) ≤ n by omega)]
      refine iteF ?_
      rw [decide_eq_false (fun y : _ ∧ _ => c y.1)] at q; exact q
theorem ok_left (T : Txt P K mg) : FnR P w K mg base CX0 5 (mA K "Fixed" "left_at") (spLeft K) := by
  refine okR0 T.fLeft scLeft (fun _ _ _ _ _ _ us hl => match us, hl with | [_, _], _ => rfl) (fun vs H Q E h => ?_) (fun cdv A outer s H vs Q E hr h => ?_)
  · obtain ⟨_, _, _, _, _, _, rfl, _⟩ := h
    rfl
  · obtain ⟨x, t, r, m, l, n, rfl, R, hn, c1, c2, q⟩ := h
    obtain ⟨dx, hx⟩ := R.at_
    refine ⟨_, pss_cons (ps_if (pt_not (pt_val (pe_methR (pv 0) T.clFixed T.mStands (ok_stands T) hr pass0 (pa_cons (pv 1) pa_nil)))) pss_never pss_nil)
      (pss_one (ps_ret (pe_op op_sub (pv 1) (pe_fld (pv 0) rfl)))), ?_⟩
    refine ⟨_, rfl, x, dx, _, rfl, hx, rfl, _, rfl, x, t, r, m, l, n, rfl, R, hn, _, rfl, ?_⟩
    rw [decide_eq_true (⟨c1, c2⟩ : _ ∧ _)]
    refine iteF ⟨_, rfl, _, rfl, x, _, dx, _, _, rfl, hx, T.clFixed, T.naSize, rfl, _, _, rfl, rfl, ?_⟩
    have e : ((n - t : Nat) : Int) = (n : Int) - t := by omega
    rw [e] at q; exact q
end
end FT
/-! The walk: a table asked, bars looked at, answers. -/
namespace FT
open PySem PySem.Spec PyProof.Rows L2 FTM
open PySem.W (Frag)
abbrev fTab (b q n : V) : List (Str × V) := [("begin", b), ("period", q), ("numbers", n)]
structure TabAt (K : Frag) (H : Hp) (p : Addr) (wf : Nat → Int) (b q : Nat) : Prop where
  at_ : ∃ dx t row, H p = some (.ins (gA K "Table") dx (fTab (.int b) (.int q) (.ref t))) ∧ H t = some (.tup (row.map V.int)) ∧ row.length = b + q ∧ ∀ n, wf n = tw row b q n
  q0 : 0 < q
  most : b + q ≤ 1000
theorem TabAt.same {K : Frag} {H H' : Hp} {p : Addr} {wf : Nat → Int} {b q : Nat} (R : TabAt K H p wf b q) (s : Same H H') : TabAt K H' p wf b q :=
  ⟨let ⟨dx, t, row, e1, e2, e3, e4⟩ := R.at_; ⟨dx, t, row, s _ _ e1, s _ _ e2, e3, e4⟩, R.q0, R.most⟩
theorem TabAt.rep {K : Frag} {H : Hp} {p : Addr} {wf : Nat → Int} {b q : Nat} (R : TabAt K H p wf b q) : Rep wf b q := by
  obtain ⟨dx, t, row, _, _, _, e⟩ := R.at_
  have r := tw_rep row b q R.q0
  exact ⟨R.q0, fun n hn => by rw [e, e]; exact r.rep n hn⟩
/-- barred, as a Bool -/
def bB (w : Nat → Int) (t r m l n : Nat) : Bool := decide (t + l ≤ n ∧ n % m = r) && decide (w (n - t) = w n)
theorem bB_iff {w : Nat → Int} {t r m l n : Nat} : bB w t r m l n = true ↔ t + l ≤ n ∧ Bar w t r m n := by
  unfold bB Bar
  simp only [Bool.and_eq_true, decide_eq_true_eq]
  constructor
  · rintro ⟨⟨a, b⟩, c⟩; exact ⟨a, by omega, b, c⟩
  · rintro ⟨a, _, b, c⟩; exact ⟨⟨a, b⟩, c⟩
abbrev mh : Nat := 1000000000000000000000000000000
def spWorth (K : Frag) : Sp := fun vs H Q _ => ∃ (p : Addr) (wf : Nat → Int) (b q n : Nat), vs = [.ref p, .int n] ∧ TabAt K H p wf b q ∧ n ≤ mh ∧ Q (.int (wf n)) H
def spIsBarred (K : Frag) : Sp := fun vs H Q _ => ∃ (p x : Addr) (wf : Nat → Int) (b q t r m l n : Nat), vs = [.ref p, .ref x, .int n] ∧ TabAt K H p wf b q ∧ RuleAt K H x t r m l ∧ n ≤ mh ∧ Q (.bl (bB wf t r m l n)) H
def spSettled (K : Frag) : Sp := fun vs H Q _ => ∃ (p x : Addr) (wf : Nat → Int) (b q t r m l : Nat), vs = [.ref p, .ref x] ∧ TabAt K H p wf b q ∧ RuleAt K H x t r m l ∧ Q (.int ((max (t + l) (b + t) : Nat) : Int)) H
def spFA (C : Addr) : Sp := fun vs H Q _ => ∃ (x dx : Addr) (v : V), vs = [.ref x, v] ∧ H x = some (.ins C dx []) ∧ Q .non (upd H x (.ins C dx [("rule", v)]))
def spBool (C : Addr) (b : Bool) : Sp := fun vs H Q _ => ∃ (x dx : Addr) (fs : List (Str × V)), vs = [.ref x] ∧ H x = some (.ins C dx fs) ∧ Q (.bl b) H
theorem atRow {row : List Int} {i : Nat} (h : i < row.length) : atI (row.map V.int) (i : Int) = some (.int (row.getD i 0)) := by
  refine atI_nat ?_
  rw [List.getElem?_map, List.getElem?_eq_getElem h]
  simp [List.getD, List.getElem?_eq_getElem h]
section
variable {P : Program} {w : World} {K : Frag} {mg : Str → Option Value} {base : Heap}
theorem ok_worth (T : Txt P K mg) : FnR P w K mg base CX0 4 (mA K "Table" "worth_at") (spWorth K) := by
  refine okR0 T.fWorthAt scWorthAt (fun _ _ _ _ _ _ us hl => match us, hl with | [_, _], _ => rfl) (fun vs H Q E h => ?_) (fun cdv A outer s H vs Q E hr h => ?_)
  · obtain ⟨_, _, _, _, _, rfl, _⟩ := h
    rfl
  · obtain ⟨p, wf, b, q, n, rfl, R, hn, k⟩ := h
    obtain ⟨dx, t, row, hp, ht, hl, hw⟩ := R.at_
    have q0 := R.q0
    refine ⟨_, pss_cons (ps_expr (pe_callR (ok_needHeap T) hr T.gNeedHeap (by rfl) pass0 (pa_cons (pv 1) pa_nil)))
      (pss_cons (ps_if (pt_cmpR op_lt (pv 1) (pe_fld (pv 0) rfl) (nomark _)) (pss_one (ps_ret (pe_ix ix_tup (pe_fld (pv 0) rfl) (pv 1) (fun _ _ => rfl)))) pss_nil)
      (pss_one (ps_ret (pe_ix ix_tup (pe_fld (pv 0) rfl) (pe_op op_add (pe_fld (pv 0) rfl) (pe_op op_mod (pe_op op_sub (pv 1) (pe_fld (pv 0) rfl)) (pe_fld (pv 0) rfl))) (fun _ _ => rfl))))), ?_⟩
    refine ⟨_, rfl, n, rfl, hn, _, rfl, _, rfl, p, _, dx, _, _, rfl, hp, T.clTable, T.naBegin, rfl, _, _, rfl, rfl, _, rfl, ?_⟩
    by_cases c : n < b
    · rw [decide_eq_true (show (n : Int) < b by omega)]
      refine iteT ⟨_, rfl, p, _, dx, _, _, rfl, hp, T.clTable, T.naNumbers, rfl, _, rfl, t, _, _, _, rfl, rfl, SqT.of ht, atRow (by omega), ?_⟩
      have e : wf n = row.getD n 0 := by rw [hw, tw, if_pos c]
      rw [e] at k; exact k
    · rw [decide_eq_false (show ¬ (n : Int) < b by omega)]
      refine iteF ⟨_, rfl, p, _, dx, _, _, rfl, hp, T.clTable, T.naNumbers, rfl, _, rfl, p, _, dx, _, _, rfl, hp, T.clTable, T.naBegin, rfl, _, rfl, _, rfl, p, _, dx, _, _, rfl, hp, T.clTable, T.naBegin, rfl,
        _, _, rfl, rfl, _, rfl, p, _, dx, _, _, rfl, hp, T.clTable, T.naPeriod, rfl, _, _, rfl, rfl, (by show (0 : Int) < q; omega), _, _, rfl, rfl, ?_⟩
      have e1 : (b : Int) + ((n : Int) - b) % q = ((b + (n - b) % q : Nat) : Int) := by
        rw [show (n : Int) - b = ((n - b : Nat) : Int) by omega, imod]; omega
      refine ⟨t, _, _, _, rfl, congrArg V.int e1, SqT.of ht, atRow (by have := Nat.mod_lt (n - b) q0; omega), ?_⟩
      have e : wf n = row.getD (b + (n - b) % q) 0 := by rw [hw, tw, if_neg c]
      rw [e] at k; exact k
theorem ok_isBarred (T : Txt P K mg) : FnR P w K mg base CX0 6 (gA K "is_barred") (spIsBarred K) := by
  refine okR0 T.fIsBarred scIsBarred (fun _ _ _ _ _ _ us hl => match us, hl with | [_, _, _], _ => rfl) (fun vs H Q E h => ?_) (fun cdv A outer s H vs Q E hr h => ?_)
  · obtain ⟨_, _, _, _, _, _, _, _, _, _, rfl, _⟩ := h
    rfl
  · obtain ⟨p, x, wf, b, q, t, r, m, l, n, rfl, R, U, hn, k⟩ := h
    obtain ⟨dx, tt, row, hp, ht, hl, hw⟩ := R.at_
    obtain ⟨dy, hx⟩ := U.at_
    have hr4 : Room 4 _ := hr.mono (by decide)
    refine ⟨_, pss_one (ps_ret (pe_and (pe_methR (pv 1) T.clFixed T.mStands (ok_stands T) hr4 pass0 (pa_cons (pv 2) pa_nil))
      (pe_one (pe_cmpR op_eq (pe_methR (pv 0) T.clTable T.mWorthAt (ok_worth T) hr4 pass0 (pa_cons (pv 2) pa_nil))
        (pe_methR (pv 0) T.clTable T.mWorthAt (ok_worth T) hr4 pass0 (pa_cons (pe_methR (pv 1) T.clFixed T.mLeft (ok_left T) hr pass0 (pa_cons (pv 2) pa_nil)) pa_nil)) (nomark _))))), ?_⟩
    refine ⟨_, rfl, x, dy, _, rfl, hx, rfl, _, rfl, x, t, r, m, l, n, rfl, U, hn, _, rfl, ?_⟩
    by_cases c : t + l ≤ n ∧ n % m = r
    · rw [decide_eq_true c]
      refine iteT ⟨_, rfl, p, dx, _, rfl, hp, rfl, _, rfl, p, wf, b, q, n, rfl, R, hn, _, rfl, p, dx, _, rfl, hp, rfl, _, rfl, x, dy, _, rfl, hx, rfl, _, rfl, x, t, r, m, l, n, rfl, U, hn, c.1, c.2, p, wf, b, q, n - t, rfl, R, by omega, rfl, ?_⟩
      show Q (.bl (decide (V.int (wf n) = V.int (wf (n - t))))) H
      rw [dec_int]
      have e : bB wf t r m l n = decide (wf n = wf (n - t)) := by
        unfold bB
        rw [decide_eq_true c, Bool.true_and]
        exact decide_eq_decide.mpr eq_comm
      rw [e] at k; exact k
    · rw [decide_eq_false c]
      have e : bB wf t r m l n = false := by unfold bB; rw [decide_eq_false c, Bool.false_and]
      refine iteF ?_
      rw [e] at k; exact k
theorem ok_settled (T : Txt P K mg) : FnR P w K mg base CX0 1 (gA K "settled_from") (spSettled K) := by
  refine okR0 T.fSettled scSettled (fun _ _ _ _ _ _ us hl => match us, hl with | [_, _], _ => rfl) (fun vs H Q E h => ?_) (fun cdv A outer s H vs Q E hr h => ?_)
  · obtain ⟨_, _, _, _, _, _, _, _, _, rfl, _⟩ := h
    rfl
  · obtain ⟨p, x, wf, b, q, t, r, m, l, rfl, R, U, k⟩ := h
    obtain ⟨dx, tt, row, hp, ht, hl, hw⟩ := R.at_
    obtain ⟨dy, hx⟩ := U.at_
    refine ⟨_, pss_cons (ps_set (i := 2) scSettled.nd rfl (Or.inl rfl) (pe_ifExp (pt_val (pe_callB (C8.call_isC T.icFixed) (by rfl) T.nIsi (by decide +kernel) (pa_cons (pv 1) (pa_cons (pe_glob (v := .ref (gA K "Fixed")) (by rfl) T.mgFixed rfl) pa_nil)))) (pe_fld (pv 1) rfl) pe_int))
      (pss_one (ps_ret (pe_callB (call_max2 rfl) (by rfl) T.nMax (by decide +kernel) (pa_cons (pe_callTy call_int1 (by rfl) T.nInt (by decide +kernel) (pa_cons (pe_fld (pv 1) rfl) pa_nil)) (pa_cons (pe_callTy call_int1 (by rfl) T.nInt (by decide +kernel) (pa_cons (pe_op op_add (pe_fld (pv 0) rfl) (pv 2)) pa_nil)) pa_nil))))), ?_⟩
    refine ⟨_, rfl, x, dy, _, rfl, hx, _, rfl, iteT ⟨_, rfl, x, _, dy, _, _, rfl, hx, T.clFixed, T.naSize, rfl, ?_⟩⟩
    refine ⟨_, rfl, x, _, dy, _, _, rfl, hx, T.clFixed, T.naStart, rfl, .inl ⟨_, rfl, ?_⟩⟩
    refine ⟨_, rfl, p, _, dx, _, _, rfl, hp, T.clTable, T.naBegin, rfl, _, rfl, _, _, rfl, rfl, .inl ⟨_, rfl, ?_⟩⟩
    refine ⟨_, _, rfl, ?_⟩
    have e : ((max (t + l) (b + t) : Nat) : Int) = if (b : Int) + t > (t : Int) + l then (b : Int) + t else (t : Int) + l := by
      by_cases c : (b : Int) + t > (t : Int) + l
      · rw [if_pos c]; omega
      · rw [if_neg c]; omega
    rw [e] at k; exact k
theorem ok_FA (T : Txt P K mg) {C : Addr} (hc : Cls K C) (hn : NoAttr K C "rule") : FnR P w K mg base CX0 1 (mA K "FreeAnswer" "__init__") (spFA C) := by
  refine okR0 T.fFAinit scFAinit (fun _ _ _ _ _ _ us hl => match us, hl with | [_, _], _ => rfl) (fun vs H Q E h => ?_) (fun cdv A outer s H vs Q E hr h => ?_)
  · obtain ⟨_, _, _, rfl, _⟩ := h
    rfl
  · obtain ⟨x, dx, v, rfl, hx, k⟩ := h
    refine ⟨_, pss_one (ps_fld (pv 0) (pv 1) rfl), ?_⟩
    exact ⟨_, rfl, _, rfl, x, C, dx, _, rfl, hx, hc, hn, (by show 0 < 1000; decide), k⟩
theorem ok_fbool (T : Txt P K mg) : FnR P w K mg base CX0 1 (mA K "Free" "__bool__") (spBool (gA K "Free") true) := by
  refine okR0 T.fFBool scFreeBool (fun _ _ _ _ _ _ us hl => match us, hl with | [_], _ => rfl) (fun vs H Q E h => ?_) (fun cdv A outer s H vs Q E hr h => ?_)
  · obtain ⟨_, _, _, rfl, _⟩ := h
    rfl
  · obtain ⟨x, dx, v, rfl, hx, k⟩ := h
    exact ⟨_, pss_one (ps_ret pe_bl), k⟩
theorem ok_bbool (T : Txt P K mg) : FnR P w K mg base CX0 1 (mA K "Barred" "__bool__") (spBool (gA K "Barred") false) := by
  refine okR0 T.fBBool scBarBool (fun _ _ _ _ _ _ us hl => match us, hl with | [_], _ => rfl) (fun vs H Q E h => ?_) (fun cdv A outer s H vs Q E hr h => ?_)
  · obtain ⟨_, _, _, rfl, _⟩ := h
    rfl
  · obtain ⟨x, dx, v, rfl, hx, k⟩ := h
    exact ⟨_, pss_one (ps_ret pe_bl), k⟩
end
end FT
/-! The walk: Barred.__init__, by super. -/
namespace FT
open PySem PySem.Spec PyProof.Rows L2 FTM
open PySem.W (Frag)
def spBI (C : Addr) : Sp := fun vs H Q _ => ∃ (x dx : Addr) (v1 v2 v3 : V), vs = [.ref x, v1, v2, v3] ∧ H x = some (.ins C dx []) ∧ ∀ H' fs, H' x = some (.ins C dx fs) → SmB x H H' → Q .non H'
theorem scBarInit : NdefX.NScope ["self", "rule", "heap", "left", "__class__"] ["self", "rule", "heap", "left"] ["__class__"] (defScope sBarInit) :=
  ⟨rfl, rfl, rfl, by decide +kernel, rfl, by decide +kernel, by decide +kernel, by decide +kernel, by decide +kernel⟩
section
variable {P : Program} {w : World} {K : Frag} {mg : Str → Option Value} {base : Heap}
theorem ok_bi (T : Txt P K mg) (KB : K.In base) : FnR P w K mg base CX0 2 (mA K "Barred" "__init__") (spBI (gA K "Barred")) := by
  intro A outer s H us vs Q E hr e0 r hsp
  obtain ⟨oc, od, doc, pm, cda, cc, ct, osl, lk, hcd, ⟨cl, cld, csl, lcell⟩, S⟩ := T.fBInit
  obtain ⟨x, dx, v1, v2, v3, rfl, hx, k⟩ := hsp
  have KX : K.In s.heap := e0.mod.kin.keeps fun b o e => (e0.bs b o e).1
  have lim : s.heap.NoLimit := e0.mod.nolimit.keeps fun b o e => (e0.bs b o e).1
  let F : NdefX.NF := ⟨"__init__", "Barred.__init__", defArgs sBarInit, defBody sBarInit, defScope sBarInit, [(("__class__" : Str), cc)], cda⟩
  have hus : us.length = 4 := by rw [← r.length]; rfl
  have hcc := e0.bs cc _ (KB _ _ lcell)
  have hCells : NdefX.CellsAt F.cl ["__class__"] [some (.ref (gA K "Barred"))] s.heap H := by
    have lkc : ∀ y c, List.lookup y F.cl = some c → y = ("__class__" : Str) ∧ c = cc := fun y c e => by
      have e' : List.lookup y [(("__class__" : Str), cc)] = some c := e
      simp only [List.lookup] at e'
      split at e'
      · rename_i h; exact ⟨by simpa using h, (Option.some.inj e').symm⟩
      · cases e'
    refine ⟨rfl, fun y c e => ?_, fun y z c e1 e2 => ?_, fun i y e => ?_⟩
    · obtain ⟨rfl, rfl⟩ := lkc y c e
      exact ⟨hcc.2, _, _, hcc.1, rfl⟩
    · rw [(lkc y c e1).1, (lkc z c e2).1]
    · match i, e with
      | 0, e =>
        cases e
        refine ⟨cc, by rfl, fun v hv => ?_⟩
        have hv' : some (some (V.ref (gA K "Barred"))) = some (some v) := hv
        cases hv'
        exact ⟨_, rfl, _, hcc.1, rfl⟩
      | n + 1, e => simp at e
  refine PySem.ks_codeAny_call_defAt (fd := F.fd doc pm ct) (body := F.body) (binds := (["self", "rule", "heap", "left"] : List Str).zip us) hr.depth (KX _ _ lk) rfl lim (PySem.W.codeRec_of KX hcd) rfl (BindsTo.of_eq ?_) scBarInit.nocell
    (fun ⟨n, _⟩ hy => scBarInit.par n (List.of_mem_zip hy).1) (fun h₁ hns kp => ?_)
  · match us, hus with
    | [_, _, _, _], _ => rfl
  have I : Inv (NdefX.ncx CX0 P w K mg base ["self", "rule", "heap", "left", "__class__"] F (mA K "Barred" "__init__") A outer s H E) [] (NdefX.startF ["self", "rule", "heap", "left", "__class__"] [.ref x, v1, v2, v3] [some (.ref (gA K "Barred"))]) H
      { s with heap := h₁, toks := s.toks + ((["self", "rule", "heap", "left"] : List Str).zip us).length } := NdefX.inv_startN scBarInit hr.hd e0 rfl r hCells hns kp
  have hr1 : Room 1 _ := hr.deeper (NdefX.envF F (mA K "Barred" "__init__") s.heap.objs.size)
  let X : Cx := NdefX.ncx CX0 P w K mg base ["self", "rule", "heap", "left", "__class__"] F (mA K "Barred" "__init__") A outer s H E
  have FA : FnR X.prog X.w X.K X.mg X.base CX0 1 (mA K "FreeAnswer" "__init__") (spFA (gA K "Barred")) := ok_FA T T.clBarred T.naBRule
  have rest : PSs X ((defBody sBarInit).drop 1) (tSeq (sFld X.K (tVar 0) (tVar 2) "heap") (sFld X.K (tVar 0) (tVar 3) "left")) := pss_cons (ps_fld (pv 0) (pv 2) rfl) (pss_one (ps_fld (pv 0) (pv 3) rfl))
  have at1 : PySem.wpAt (model P w) X.A (.func (defBody sBarInit) X.env) (execs (defBody sBarInit) X.env) (SP X [] { nx := fun _ H' => Q .non H', rt := Q }) X.xe
      { s with heap := h₁, toks := s.toks + ((["self", "rule", "heap", "left"] : List Str).zip us).length } := by
    refine PySem.ks_wpAt_execs_cons (PySem.wpAt_mono (sup_stmt (X := X) (Dc := gA K "Barred") (x := x) (self := "self") (i := 0) (ic := 4) (D := { nx := tSeq (sFld X.K (tVar 0) (tVar 2) "heap") (sFld X.K (tVar 0) (tVar 3) "left") { nx := fun _ H' => Q .non H', rt := Q }, rt := Q }) S FA hr1 pass0 (pa_cons (pv 1) pa_nil) I rfl rfl (by rfl) (by rfl) (by rfl) rfl rfl rfl rfl (by decide) ?_ (by rfl) (by rfl) (by rfl) (by rfl) (by rfl)) (fun f s' hs => ?_) fun _ _ h => h)
    · refine ⟨⟨dx, _, hx⟩, _, rfl, x, dx, _, rfl, hx, ?_⟩
      refine ⟨_, rfl, _, rfl, x, _, dx, _, rfl, upd_same, T.clBarred, T.naBHeap, (by show 1 < 1000; decide), ?_⟩
      refine ⟨_, rfl, _, rfl, x, _, dx, _, rfl, upd_same, T.clBarred, T.naBLeft, ?_, ?_⟩
      · rw [putF_new (by rfl)]
        show 2 < 1000
        decide
      · exact k _ _ upd_same fun b o hb e => by rw [upd_ne hb, upd_ne hb, upd_ne hb]; exact e
    · cases f with
      | next =>
        obtain ⟨σ', H', J, q⟩ := hs
        exact PySem.wpAt_of_wpAny (rest.run [] s' σ' H' _ J q)
      | brk => obtain ⟨_, _, _, q⟩ := hs; exact False.elim q
      | cont => obtain ⟨_, _, _, q⟩ := hs; exact False.elim q
      | ret u => exact hs
  refine PySem.wpAt_mono at1 (fun fl s' hs => ?_) fun e s' hs => hs
  have fin : ∀ {σ' : L2.St} {H' : Hp} {v : V} {u : Value}, Inv X [] σ' H' s' → L2.RelV v u → Q v H' → CE outer P w H s Q u s' :=
    fun {σ' H' v u} J rv q => ⟨v, H', J.os, J.bare, J.base, J.hok, rv, q⟩
  cases fl with
  | ret u =>
    obtain ⟨v, σ', H', J, rv, q⟩ := hs
    exact fin J rv q
  | next =>
    obtain ⟨σ', H', J, q⟩ := hs
    exact fin (v := V.non) (u := Value.none) J rfl q
  | brk => obtain ⟨_, _, _, q⟩ := hs; exact False.elim q
  | cont => obtain ⟨_, _, _, q⟩ := hs; exact False.elim q
end
end FT
/-! The walk: bars, a generator. -/
namespace FT
open PySem PySem.Spec PyProof.Rows L2 FTM FTG
open PySem.W (Frag)
/-! ### counting -/
def cnt (B : Nat → Bool) : Nat → Nat
  | 0 => 0
  | n + 1 => cnt B n + if B n = true then 1 else 0
theorem cnt_le (B : Nat → Bool) : ∀ n, cnt B n ≤ n
  | 0 => Nat.le_refl _
  | n + 1 => by
    have := cnt_le B n
    show cnt B n + (if B n = true then 1 else 0) ≤ n + 1
    split <;> omega
theorem cnt_zero {B : Nat → Bool} : ∀ {n}, (∀ i < n, B i = false) → cnt B n = 0
  | 0, _ => rfl
  | n + 1, h => by
    show cnt B n + (if B n = true then 1 else 0) = 0
    rw [cnt_zero fun i hi => h i (by omega), h n (by omega)]
    rfl
theorem cnt_add {B : Nat → Bool} {a : Nat} : ∀ {n}, (∀ i < n, B (a + i) = false) → cnt B (a + n) = cnt B a
  | 0, _ => rfl
  | n + 1, h => by
    show cnt B (a + n) + (if B (a + n) = true then 1 else 0) = cnt B a
    rw [cnt_add fun i hi => h i (by omega), h n (by omega)]
    rfl
theorem cnt_mono {B : Nat → Bool} {a : Nat} : ∀ {n}, cnt B a ≤ cnt B (a + n)
  | 0 => Nat.le_refl _
  | n + 1 => by
    show cnt B a ≤ cnt B (a + n) + (if B (a + n) = true then 1 else 0)
    have := cnt_mono (B := B) (a := a) (n := n)
    omega
theorem cnt_lt {B : Nat → Bool} {a n b : Nat} (h1 : a ≤ n) (h2 : n < b) (h : B n = true) : cnt B a < cnt B b := by
  have e1 := cnt_mono (B := B) (a := a) (n := n - a)
  have e2 := cnt_mono (B := B) (a := n + 1) (n := b - (n + 1))
  rw [show a + (n - a) = n by omega] at e1
  rw [show n + 1 + (b - (n + 1)) = b by omega] at e2
  have e3 : cnt B (n + 1) = cnt B n + 1 := by
    show cnt B n + (if B n = true then 1 else 0) = _
    rw [if_pos h]
  omega
/-- the first of those below n that hold -/
theorem filt_head {p : Nat → Bool} {a : Nat} : ∀ {n}, ((List.range n).filter p)[0]? = some a → p a = true ∧ a < n ∧ ∀ i < a, p i = false
  | 0, h => by simp at h
  | n + 1, h => by
    rw [List.range_succ, List.filter_append] at h
    cases e : (List.range n).filter p with
    | nil =>
      rw [e, List.nil_append] at h
      by_cases c : p n = true
      · rw [List.filter_cons_of_pos c] at h
        simp at h
        subst h
        refine ⟨c, by omega, fun i hi => ?_⟩
        cases z : p i with
        | false => rfl
        | true =>
          have : i ∈ (List.range n).filter p := List.mem_filter.mpr ⟨List.mem_range.mpr hi, z⟩
          rw [e] at this
          cases this
      · rw [List.filter_cons_of_neg c] at h
        simp at h
    | cons x r =>
      rw [e] at h
      have h' : ((List.range n).filter p)[0]? = some a := by rw [e]; simpa using h
      obtain ⟨h1, h2, h3⟩ := filt_head h'
      exact ⟨h1, by omega, h3⟩
theorem filt_none {p : Nat → Bool} {n : Nat} (h : (List.range n).filter p = []) {i : Nat} (hi : i < n) : p i = false := by
  cases z : p i with
  | false => rfl
  | true =>
    have : i ∈ (List.range n).filter p := List.mem_filter.mpr ⟨List.mem_range.mpr hi, z⟩
    rw [h] at this
    cases this
theorem filt_t {p : Nat → Bool} {n : Nat} (h : p n = true) : (List.range (n + 1)).filter p = (List.range n).filter p ++ [n] := by
  rw [List.range_succ, List.filter_append, List.filter_cons_of_pos h]
  rfl
theorem filt_f {p : Nat → Bool} {n : Nat} (h : p n = false) : (List.range (n + 1)).filter p = (List.range n).filter p := by
  rw [List.range_succ, List.filter_append, List.filter_cons_of_neg (by rw [h]; decide), List.filter_nil, List.append_nil]
/-! ### loops in a generator, by a word -/
theorem gfor_range {lo : Int} {n : Nat} {g : TG} {tb : TGe} {D : GE} {j : Nat} {σ : L2.St} {H : Hp} (Pv : Nat → Nat → L2.St → Hp → Prop) (h0 : Pv 0 j σ H)
    (hs : ∀ i j σ H, i < n → Pv i j σ H → g (.int (lo + i)) σ H fun σ2 H2 => tb { D with nx := Pv (i + 1), ct := Pv (i + 1), bk := D.nx } j σ2 H2) (hd : ∀ j σ H, Pv n j σ H → D.nx j σ H) :
    ∃ W : Nat → Nat → Nat → L2.St → Hp → Prop, (∃ m, W 0 m j σ H) ∧ ∀ i m j σ H, W i m j σ H →
      ((Itr lo n).stop i H ∧ D.nx j σ H) ∨ ((Itr lo n).go i H ∧ ∃ N : Nat → L2.St → Hp → Prop, (∀ j' σ' H', N j' σ' H' → ∃ m', m' < m ∧ W (i + 1) m' j' σ' H') ∧ ∀ x H', (Itr lo n).yld i H x H' → g x σ H' fun σ2 H2 => tb { D with nx := N, ct := N, bk := D.nx } j σ2 H2) := by
  refine ⟨fun i m j σ H => m = n - i ∧ i ≤ n ∧ Pv i j σ H, ⟨n, by simp, Nat.zero_le _, h0⟩, ?_⟩
  rintro i m j σ H ⟨rfl, hi, p⟩
  by_cases hlt : i < n
  · refine .inr ⟨hlt, Pv (i + 1), fun j' σ' H' p' => ⟨n - (i + 1), by omega, rfl, hlt, p'⟩, fun x H' y => ?_⟩
    obtain ⟨e, y⟩ := y
    subst e y
    exact hs i j σ _ hlt p
  · have e : i = n := by omega
    subst e
    exact .inl ⟨Nat.le_refl _, hd j σ H p⟩
/-- a list whose first turn never goes on -/
theorem gfor_first {K : Frag} {a : Addr} {x0 : V} {xs : List V} {g : TG} {tb : TGe} {D : GE} {j : Nat} {σ : L2.St} {H : Hp} (hl : SqL K H a (x0 :: xs))
    (hs : g x0 σ H fun σ2 H2 => tb { D with nx := fun _ _ _ => False, ct := fun _ _ _ => False, bk := D.nx } j σ2 H2) :
    ∃ W : Nat → Nat → Nat → L2.St → Hp → Prop, (∃ m, W 0 m j σ H) ∧ ∀ i m j σ H, W i m j σ H →
      ((Itl K a).stop i H ∧ D.nx j σ H) ∨ ((Itl K a).go i H ∧ ∃ N : Nat → L2.St → Hp → Prop, (∀ j' σ' H', N j' σ' H' → ∃ m', m' < m ∧ W (i + 1) m' j' σ' H') ∧ ∀ x H', (Itl K a).yld i H x H' → g x σ H' fun σ2 H2 => tb { D with nx := N, ct := N, bk := D.nx } j σ2 H2) := by
  refine ⟨fun i m j' σ' H' => i = 0 ∧ j' = j ∧ σ' = σ ∧ H' = H, ⟨0, rfl, rfl, rfl, rfl⟩, ?_⟩
  rintro i m j' σ' H' ⟨rfl, rfl, rfl, rfl⟩
  refine .inr ⟨⟨x0 :: xs, x0, hl, rfl⟩, fun _ _ _ => False, fun _ _ _ q => q.elim, fun x H' y => ?_⟩
  obtain ⟨e, y⟩ := y
  subst e
  have e2 := y _ hl
  have e3 : x0 = x := Option.some.inj e2
  subst e3
  exact hs
/-! ### the promise -/
/-- whose bars, from where they come again -/
structure BarsOf (K : Frag) (H : Hp) (p x : Addr) (wf : Nat → Int) (b q t r m l : Nat) : Prop where
  tab : TabAt K H p wf b q
  rule : RuleAt K H x t r m l
def spBars (K : Frag) : SpG2 := fun vs H Y M Z => ∃ (p x : Addr) (wf : Nat → Int) (b q t r m l : Nat), vs = [.ref p, .ref x, .int 0] ∧ TabAt K H p wf b q ∧ RuleAt K H x t r m l ∧
  (∀ (j h : Nat) H', Same H H' → bB wf t r m l h = true → cnt (bB wf t r m l) h = j → h ≤ 9000 → Y j (.int h) H') ∧
  (∀ j x, M j x → ∃ h : Nat, x = .int h ∧ h < max (t + l) (b + t)) ∧
  (∀ (j z : Nat) H', Same H H' → (∀ n, z ≤ n → bB wf t r m l n = false) → cnt (bB wf t r m l) z = j → z ≤ 9000 → Z j H')
abbrev rMx : List V → Hp → VK → Prop := fun xs H Q => ∃ i j : Int, xs = [V.int i, V.int j] ∧ Q (V.int (if j > i then j else i)) H
abbrev rI1 : List V → Hp → VK → Prop := fun xs H Q => (∃ i, xs = [V.int i] ∧ Q (V.int i) H) ∨ ∃ k, xs = [V.bl k] ∧ Q (V.int (if k = true then 1 else 0)) H
abbrev rLn (K : Frag) : List V → Hp → VK → Prop := fun xs H Q => ∃ p ys, xs = [V.ref p] ∧ (SqL K H p ys ∨ SqT K H p ys) ∧ Q (V.int ys.length) H
abbrev rAd : R2 := rI0 fun i j => .int (i + j)
abbrev rGt' : R2 := rI0 fun i j => .bl (decide (j < i))
abbrev rGe' : R2 := rI0 fun i j => .bl (decide (j ≤ i))
section
variable {P : Program} {w : World} {K : Frag} {mg : Str → Option Value} {base : Heap}
theorem ok_bars (T : Txt P K mg) {fd : FuncData} (F : FunD K "bars" "bars" (defArgs sBars) (defBody sBars) (defScope sBars) [.int 0] [] (gA K "bars") fd) : GFn2 P w K mg base 7 (gA K "bars") fd ["table", "rule", "first"] (spBars K) := by
  obtain ⟨oc, od, dV, kV, doc, pm, an, cdv, ct, osl, rfl, lk, hcd, _, _⟩ := F.ex
  refine gfn2_of (k := 6) lk hcd scBars (fun vs H Y M Z h => ?_) fun A outer s H vs Y M Z pn L hr hsp GK => ?_
  · obtain ⟨_, _, _, _, _, _, _, _, _, rfl, _⟩ := h
    rfl
  obtain ⟨p, x, wf, b, q, t, r, m, l, rfl, R, U, hY, hM, hZ⟩ := hsp
  have nd := scBars.nd
  have hr3 : Room 3 _ := hr.mono (by decide)
  have hr1 : Room 1 _ := hr.mono (by decide)
  obtain ⟨tk, cmh⟩ := T.cMH
  refine ⟨_, gss_cons (gs_plain (t := tDrop (tCallR spNeedHeap E0 (tCons (tVar 2) tNil))) GK fun s0 => ps_expr (pe_callR (ok_needHeap T) hr3 T.gNeedHeap (by rfl) pass0 (pa_cons (pv 2) pa_nil)))
    (gss_cons (gs_plain (t := tAsg (tCallR (spSettled K) E0 (tCons (tVar 0) (tCons (tVar 1) tNil))) (gName 3)) GK fun s0 => ps_set (i := 3) nd rfl (Or.inr rfl) (pe_callR (ok_settled T) hr1 T.gSettled (by rfl) pass0 (pa_cons (pv 0) (pa_cons (pv 1) pa_nil))))
    (gss_cons (gs_for2 (wi := iRng2 (tCons (tCB rMx (tCons (tCB rI1 (tCons (tVar 2) tNil)) (tCons (tCB rI1 (tCons (tFld K (tVar 1) "start") tNil)) tNil))) (tCons (tVar 3) tNil))) (g' := gName 4) GK rfl
        (fun s0 => pi_range2 rfl T.nRange (pa_cons (pe_callB (call_max2 rfl) (by rfl) T.nMax (by decide +kernel) (pa_cons (pe_callTy call_int1 (by rfl) T.nInt (by decide +kernel) (pa_cons (pv 2) pa_nil)) (pa_cons (pe_callTy call_int1 (by rfl) T.nInt (by decide +kernel) (pa_cons (pe_fld (pv 1) rfl) pa_nil)) pa_nil))) (pa_cons (pv 3) pa_nil)))
        (fun s0 => pg_name (i := 4) nd rfl (Or.inl rfl))
        (gss_one (gs_if (tc := tB (tCallR (spIsBarred K) E0 (tCons (tVar 0) (tCons (tVar 1) (tCons (tVar 4) tNil))))) GK (fun s0 => pt_val (pe_callR (ok_isBarred T) hr T.gIsBarred (by rfl) pass0 (pa_cons (pv 0) (pa_cons (pv 1) (pa_cons (pv 4) pa_nil)))))
          (gss_one (gs_yield (te := tVar 4) GK fun s0 => pv 4)) gss_nil)))
    (gss_cons (gs_plain (t := tAsg (tCallR spCommon E0 (tCons (tFld K (tVar 0) "period") (tCons (tFld K (tVar 1) "modulus") tNil))) (gName 5)) GK fun s0 => ps_set (i := 5) nd rfl (Or.inl rfl) (pe_callR (ok_common T) hr1 T.gCommon (by rfl) pass0 (pa_cons (pe_fld (pv 0) rfl) (pa_cons (pe_fld (pv 1) rfl) pa_nil))))
    (gss_cons (gs_plain (t := tAsg (tLc (iRng1 (tCons (tVar 5) tNil)) (gName 6) (tB (tCallR (spIsBarred K) E0 (tCons (tVar 0) (tCons (tVar 1) (tCons (tOp rAd (tVar 3) (tVar 6)) tNil))))) (tVar 6) [6]) (gName 7)) GK fun s0 =>
        ps_setLc (i := 7) (own := [("at", 6)]) rfl nd rfl rfl (sw_true rfl rfl rfl (by decide +kernel)) (pi_range1 rfl T.nRange (pa_cons (pv 5) pa_nil)) (blkOk_by (N := ["table", "rule", "first", "settled", "heap", "whole", "at", "spots"]) (sc := defScope sBars) (by decide +kernel)) (fun _ _ _ _ _ => pg_name (i := 6) nd rfl (Or.inl rfl))
          (fun _ _ _ _ _ => pts_one (pt_val (pe_callR (ok_isBarred T) hr T.gIsBarred (by rfl) pass0 (pa_cons (pv 0) (pa_cons (pv 1) (pa_cons (pe_op op_add (pv 3) (pv 6)) pa_nil)))))) (fun _ _ _ _ _ => pv 6))
    (gss_cons (gs_if (tc := tTest (tOp rGt' (tVar 2) (tVar 3))) GK (fun s0 => pt_cmpR op_gt (pv 2) (pv 3) (nomark _)) (gss_one gs_never) gss_nil)
    (gss_one (gs_while2 (tc := tTest (tOp rGt' (tCB (rLn K) (tCons (tVar 7) tNil)) (tC (.int 0)))) GK (fun s0 => pt_cmpR op_gt (pe_callB call_len_seq (by rfl) T.nLen (by decide +kernel) (pa_cons (pv 7) pa_nil)) pe_int (nomark _))
      (gss_cons (gs_for2 (wi := iList K (tVar 7)) (g' := gName 6) GK rfl (fun s0 => pi_list (pv 7)) (fun s0 => pg_name (i := 6) nd rfl (Or.inl rfl))
          (gss_cons (gs_if (tc := tTest (tOp rGt' (tOp rAd (tVar 3) (tVar 6)) (tC (.int 1000000000000000000000000000000)))) GK (fun s0 => pt_cmpR op_gt (pe_op op_add (pv 3) (pv 6)) (pe_glob (by rfl) cmh relInt) (nomark _)) (gss_one gs_never) gss_nil)
          (gss_one (gs_if (tc := tTest (tOp rGe' (tOp rAd (tVar 3) (tVar 6)) (tVar 2))) GK (fun s0 => pt_cmpR op_ge (pe_op op_add (pv 3) (pv 6)) (pv 2) (nomark _)) (gss_one (gs_yield (te := tOp rAd (tVar 3) (tVar 6)) GK fun s0 => pe_op op_add (pv 3) (pv 6))) gss_nil))))
        (gss_one gs_never)))))))))
      , ?_⟩
  obtain ⟨dy, hx⟩ := U.at_
  obtain ⟨dx, tt, row, hp, ht, hl, hw⟩ := R.at_
  have t1 := U.t1
  have t4 := U.t4
  have l4 := U.l4
  have rm := U.rm
  have m6 := U.m6
  have q0 := R.q0
  have most := R.most
  refine ⟨_, rfl, 0, rfl, by omega, ?_⟩
  refine ⟨_, rfl, _, rfl, p, x, wf, b, q, t, r, m, l, rfl, R, U, ?_⟩
  refine ⟨_, rfl, .inl ⟨_, rfl, _, rfl, x, _, dy, _, _, rfl, hx, T.clFixed, T.naStart, rfl, .inl ⟨_, rfl, _, _, rfl, ?_⟩⟩⟩
  refine ⟨_, rfl, _, _, rfl, ?_⟩
  have em : (if ((t : Int) + l) > 0 then ((t : Int) + l) else 0) = ((t + l : Nat) : Int) := by rw [if_pos (by omega)]; omega
  rw [em]
  let S : Nat := max (t + l) (b + t)
  have hS : S = max (t + l) (b + t) := rfl
  have hSb : S ≤ 1400 := by omega
  have hmh : 9000 ≤ mh := by decide
  let B : Nat → Bool := bB wf t r m l
  have Blow : ∀ n, n < t + l → B n = false := fun n hn => by
    cases z : B n with
    | false => rfl
    | true => have := (bB_iff.mp z).1; omega
  have hBstep : ∀ n, cnt B (n + 1) = cnt B n + if B n = true then 1 else 0 := fun _ => rfl
  refine ⟨⟨by omega, by omega, by omega, by omega⟩, gfor_range (fun i j σ H' => (∃ hv, σ = [some (.ref p), some (.ref x), some (.int 0), some (.int (S : Nat)), hv, none, none, none]) ∧ Same H H' ∧ cnt B (t + l + i) = j) ?_ ?_ ?_⟩
  · refine ⟨⟨_, rfl⟩, fun _ _ e => e, ?_⟩
    exact cnt_zero fun i hi => Blow i (by omega)
  · rintro i j σ H1 hi ⟨⟨hv, rfl⟩, s1, hc⟩
    have hi' : t + l + i < S := by
      have : i < (((S : Nat) : Int) - ((t + l : Nat) : Int)).toNat := hi
      omega
    have e : ((t + l : Nat) : Int) + (i : Int) = ((t + l + i : Nat) : Int) := by omega
    refine ⟨_, rfl, _, rfl, _, rfl, p, x, wf, b, q, t, r, m, l, t + l + i, by rw [e], R.same s1, U.same s1, by omega, _, rfl, ?_⟩
    cases z : B (t + l + i) with
    | true =>
      rw [show bB wf t r m l (t + l + i) = true from z]
      refine iteT ⟨?_, _, rfl, ?_, fun hm => ?_⟩
      · have := cnt_le B (t + l + i)
        show j < sizeLine
        rw [sizeLine_eq]
        omega
      · show Y j (.int (((t + l : Nat) : Int) + (i : Int))) H1
        rw [e]
        exact hY j _ H1 s1 z hc (by omega)
      · refine ⟨⟨_, rfl⟩, s1, ?_⟩
        rw [← Nat.add_assoc, hBstep, z, hc]
        rfl
    | false =>
      rw [show bB wf t r m l (t + l + i) = false from z]
      refine iteF ⟨⟨_, rfl⟩, s1, ?_⟩
      rw [← Nat.add_assoc, hBstep, z, hc]
      rfl
  · rintro j σ H1 ⟨⟨hv, rfl⟩, s1, hc⟩
    have hj : cnt B S = j := by
      have : t + l + (((S : Nat) : Int) - ((t + l : Nat) : Int)).toNat = S := by omega
      rw [← this]; exact hc
    have hx1 := s1 _ _ hx
    have hp1 := s1 _ _ hp
    refine ⟨_, rfl, p, _, dx, _, _, rfl, hp1, T.clTable, T.naPeriod, rfl, _, rfl, x, _, dy, _, _, rfl, hx1, T.clFixed, T.naModulus, rfl, q, m, rfl, q0, by omega, fun c c0 c1 c2 c3 => ?_⟩
    have cB : c ≤ 6000 := by
      have : q * m ≤ 1000 * 6 := Nat.mul_le_mul (by omega) m6
      omega
    refine ⟨_, rfl, _, rfl, by omega, by omega, fun DL hDL => lc_range (fun i H' => Same H H' ∧ H' DL = some (.lst (((List.range i).filter fun a => B (S + a)).map fun (a : Nat) => V.int (a : Int)))) ?_ ?_ ?_⟩
    · refine ⟨fun o e z => ?_, upd_same⟩
      rw [upd_ne (ne_of_none (s1 _ _ z) hDL)]
      exact s1 _ _ z
    · rintro i H2 hi ⟨s2, hD⟩
      have hi' : i < c := by
        have : i < (c : Int).toNat := hi
        omega
      have e : ((S : Nat) : Int) + (0 + (i : Int)) = ((S + i : Nat) : Int) := by omega
      have e0 : (0 : Int) + (i : Int) = (i : Int) := by omega
      have hlen : (((List.range i).filter fun a => B (S + a)).map fun (a : Nat) => V.int (a : Int)).length ≤ i := by
        rw [List.length_map]
        refine Nat.le_trans (List.length_filter_le _ _) ?_
        rw [List.length_range]
        exact Nat.le_refl _
      refine ⟨rfl, _, rfl, _, rfl, _, rfl, _, rfl, _, _, rfl, rfl, p, x, wf, b, q, t, r, m, l, S + i, congrArg (fun z => [V.ref p, V.ref x, V.int z]) e, R.same s2, U.same s2, by omega, _, rfl, ?_⟩
      cases z : B (S + i) with
      | true =>
        rw [show bB wf t r m l (S + i) = true from z]
        refine iteT ⟨_, rfl, _, hD, ?_, fun o e' z' => ?_, ?_⟩
        · rw [sizeLine_eq]
          omega
        · rw [upd_ne (fun (w' : o = DL) => by rw [w'] at z'; have := s1 _ _ z'; rw [hDL] at this; cases this)]
          exact s2 _ _ z'
        · rw [upd_same, filt_t (p := fun a => B (S + a)) z, List.map_append]
          show some (HO.lst (_ ++ [V.int (0 + (i : Int))])) = _
          rw [e0]
          rfl
      | false =>
        rw [show bB wf t r m l (S + i) = false from z]
        refine iteF ⟨s2, ?_⟩
        rw [hD, filt_f (p := fun a => B (S + a)) z]
    · rintro H2 ⟨s2, hD⟩
      rw [show (c : Int).toNat = c by omega] at hD
      refine ⟨_, rfl, _, rfl, _, _, rfl, rfl, _, rfl, ?_⟩
      rw [decide_eq_false (show ¬ ((S : Nat) : Int) < 0 by omega)]
      refine iteF ?_
      refine ⟨fun n j' σ' H' => n = 0 ∧ j' = j ∧ H' = H2 ∧ σ' = [some (.ref p), some (.ref x), some (.int 0), some (.int (S : Nat)), hv, some (.int c), none, some (.ref DL)], ⟨0, rfl, rfl, rfl, rfl⟩, ?_⟩
      rintro n j' σ' H' ⟨rfl, rfl, rfl, rfl⟩
      refine ⟨_, rfl, DL, _, rfl, .inl (SqL.of hD), _, _, rfl, rfl, _, rfl, ?_⟩
      cases hf : (List.range c).filter fun a => B (S + a) with
      | nil =>
        refine iteF ?_
        refine hZ j' S H' s2 (fun n hn => ?_) hj (by omega)
        cases z : bB wf t r m l n with
        | false => rfl
        | true =>
          refine absurd (bB_iff.mp z).2 (no_bar_of R.rep c1 c2 c0 (S := S) (by omega) (fun k k1 k2 kb => ?_) n hn)
          have z1 : B (S + (k - S)) = false := filt_none (p := fun a => B (S + a)) hf (by omega)
          rw [show S + (k - S) = k by omega] at z1
          have z2 : B k = true := bB_iff.mpr ⟨by omega, kb⟩
          rw [z1] at z2
          cases z2
      | cons a0 rest =>
        obtain ⟨f1, f2, f3⟩ := filt_head (p := fun a => B (S + a)) (n := c) (a := a0) (by rw [hf]; rfl)
        rw [hf] at hD
        have hpos : decide ((0 : Int) < (((List.map (fun (a : Nat) => V.int (a : Int)) (a0 :: rest)).length : Nat) : Int)) = true := by
          rw [List.map_cons, List.length_cons]
          exact decide_eq_true (by omega)
        show if decide ((0 : Int) < (((List.map (fun (a : Nat) => V.int (a : Int)) (a0 :: rest)).length : Nat) : Int)) = true then _ else _
        rw [hpos]
        refine iteT ⟨fun _ _ _ => False, fun _ _ _ q => q.elim, ?_⟩
        refine ⟨_, rfl, DL, rfl, ⟨_, SqL.of hD⟩, gfor_first (x0 := .int a0) (xs := rest.map fun (a : Nat) => V.int (a : Int)) (SqL.of hD) ?_⟩
        have e : ((S : Nat) : Int) + (a0 : Int) = ((S + a0 : Nat) : Int) := by omega
        refine ⟨_, rfl, _, rfl, _, _, rfl, rfl, _, _, rfl, rfl, _, rfl, ?_⟩
        rw [decide_eq_false (show ¬ (1000000000000000000000000000000 : Int) < ((S : Nat) : Int) + (a0 : Int) by omega)]
        refine iteF ⟨_, rfl, _, rfl, _, _, rfl, rfl, _, rfl, _, _, rfl, rfl, _, rfl, ?_⟩
        rw [decide_eq_true (show (0 : Int) ≤ ((S : Nat) : Int) + (a0 : Int) by omega)]
        have hcS : cnt B (S + a0) = j' := by
          rw [cnt_add (B := B) (a := S) (n := a0) (fun i hi => f3 i hi)]
          exact hj
        refine iteT ⟨?_, _, rfl, _, rfl, _, _, rfl, rfl, ?_, fun hm => ?_⟩
        · have := cnt_le B (S + a0)
          show j' < sizeLine
          rw [sizeLine_eq]
          omega
        · show Y j' (.int (((S : Nat) : Int) + (a0 : Int))) H'
          rw [e]
          exact hY j' _ H' s2 f1 hcS (by omega)
        · obtain ⟨h, eh, lt⟩ := hM j' _ hm
          have eh' : V.int (((S : Nat) : Int) + (a0 : Int)) = V.int (h : Int) := eh
          have := V.int.inj eh'
          omega
end
end FT
/-! The walk: free, is_free, least_leave. -/
namespace FT
open StX (pe_makeR)
open PySem PySem.Spec PyProof.Rows L2 FTM FTG
open PySem.W (Frag)
abbrev KdS (K : Frag) (H : Hp) (v : V) : Prop := ∀ H', Same H H' → Kd K H' v
abbrev BadS (K : Frag) (H : Hp) (E : XK) (z : Str) : Prop := ∀ d H', Same H H' → H d = none → H' d = some (.xd [(("part" : Str), .str z)]) → E (.ref (gA K "BadRule")) (some d) H'
def oV : Option Nat → V
  | none => .non
  | some k => .int k
def spFree (K : Frag) : Sp := fun vs H Q _ => ∃ (p x : Addr) (wf : Nat → Int) (b q t r m l : Nat), vs = [.ref p, .ref x] ∧ TabAt K H p wf b q ∧ RuleAt K H x t r m l ∧
  ∀ a dx fs H', Same H H' → ((H' a = some (.ins (gA K "Free") dx fs) ∧ FreeAt wf t r m l) ∨ (H' a = some (.ins (gA K "Barred") dx fs) ∧ ¬ FreeAt wf t r m l)) → Q (.ref a) H'
def spIsFree (K : Frag) : Sp := fun vs H Q _ => ∃ (p x : Addr) (wf : Nat → Int) (b q t r m l : Nat), vs = [.ref p, .ref x] ∧ TabAt K H p wf b q ∧ RuleAt K H x t r m l ∧
  ∀ (c : Bool) H', Same H H' → (c = true ↔ FreeAt wf t r m l) → Q (.bl c) H'
def spLeast (K : Frag) : Sp := fun vs H Q E => ∃ (p : Addr) (v vr vm : V) (wf : Nat → Int) (b q : Nat), vs = [.ref p, v, vr, vm] ∧ TabAt K H p wf b q ∧ KdS K H v ∧ KdS K H vr ∧ KdS K H vm ∧
  (okInt v 1 400 = false → BadS K H E "size") ∧ (okInt v 1 400 = true → okInt vm 1 6 = false → BadS K H E "modulus") ∧
  (∀ m : Int, okInt v 1 400 = true → vm = .int m → okInt vm 1 6 = true → okInt vr 0 (m - 1) = false → BadS K H E "rest") ∧
  (∀ t r m : Nat, v = .int t → vr = .int r → vm = .int m → 1 ≤ t → t ≤ 400 → r < m → m ≤ 6 → ∀ o H', IsLeave wf t r m o → Same H H' → Q (oV o) H')
theorem same_new {H : Hp} {a b : Addr} {o1 o2 : HO} (h1 : H a = none) (h2 : H b = none) : Same H (upd (upd H b o2) a o1) := fun c o e => by
  rw [upd_ne (ne_of_none e h1), upd_ne (ne_of_none e h2)]
  exact e
theorem same_smB {H H1 H2 : Hp} {x : Addr} (hx : H x = none) (s : Same H H1) (s2 : SmB x H1 H2) : Same H H2 := fun c o e => s2 c o (ne_of_none e hx) (s c o e)
section
variable {P : Program} {w : World} {K : Frag} {mg : Str → Option Value} {base : Heap}
theorem bindBars (T : Txt P K mg) : ∃ fd ds, GFn2 P w K mg base 7 (gA K "bars") fd ["table", "rule", "first"] (spBars K) ∧ Binds K fd ["table", "rule", "first"] ds ∧ Vals [.int 0] ds := by
  obtain ⟨fd, F⟩ := T.fBars
  obtain ⟨ds, hv, hb⟩ := F.binds1 (ps := ["table", "rule", "first"]) 2 0 (by simp) rfl (fun _ _ _ _ _ _ _ us its hl h2 => match us, its, hl, h2 with | [_, _], [_], _, _ => ⟨_, rfl, rfl⟩)
  exact ⟨fd, ds, ok_bars T F, hb, hv⟩
theorem ok_free (T : Txt P K mg) (KB : K.In base) : FnR P w K mg base CX0 9 (gA K "free") (spFree K) := by
  refine okR0 T.fFree scFree (fun _ _ _ _ _ _ us hl => match us, hl with | [_, _], _ => rfl) (fun vs H Q E h => ?_) (fun cdv A outer s H vs Q E hr h => ?_)
  · obtain ⟨_, _, _, _, _, _, _, _, _, rfl, _⟩ := h
    rfl
  · obtain ⟨p, x, wf, b, q, t, r, m, l, rfl, R, U, k⟩ := h
    obtain ⟨fd, ds, G, hb, hd⟩ := bindBars (w := w) (base := base) T
    have nd := scFree.nd
    obtain ⟨dy, hx⟩ := U.at_
    refine ⟨_, pss_cons (ps_forG (i := 2) PassesOwn.never rfl rfl rfl rfl G hr (by rfl) T.gBars.1 T.gBars.2 hb hd (pa_cons (pv 0) (pa_cons (pv 1) pa_nil)) nd rfl rfl
        (PSsK.of_ret (pss_one (ps_ret (pe_makeR T.mkBarred (ok_bi T KB) (hr.mono (by decide)) (by rfl) T.mgBarred pass0 (pa_cons (pv 1) (pa_cons (pv 2) (pa_cons (pe_methR (pv 1) T.clFixed T.mLeft (ok_left T) (hr.mono (by decide)) pass0 (pa_cons (pv 2) pa_nil)) pa_nil))))))))
      (pss_one (ps_ret (pe_makeR T.mkFree (ok_FA T T.clFree T.naFRule) (hr.mono (by decide)) (by rfl) T.mgFree pass0 (pa_cons (pv 1) pa_nil)))), ?_⟩
    refine ⟨_, rfl, _, rfl, fun j v H' => ∃ h : Nat, v = .int h ∧ bB wf t r m l h = true ∧ h ≤ 9000 ∧ Same H H', fun _ _ => False, fun j H' => Same H H' ∧ ∃ z, (∀ n, z ≤ n → bB wf t r m l n = false) ∧ cnt (bB wf t r m l) z = j,
      fun j σ => j = 0 ∧ σ = [some (.ref p), some (.ref x), none], ⟨p, x, wf, b, q, t, r, m, l, rfl, R, U, fun j h H' s' h1 h2 h3 => ⟨h, rfl, h1, h3, s'⟩, fun j v hm => hm.elim, fun j z H' s' h1 h2 h3 => ⟨s', z, h1, h2⟩⟩, ⟨rfl, rfl⟩, ?_, ?_, ?_⟩
    · rintro j σ ⟨rfl, _⟩
      rw [sizeLine_eq]
      decide
    · rintro j σ v H' ⟨rfl, rfl⟩ ⟨h, rfl, hb', hh, s1⟩
      have hx1 := s1 _ _ hx
      obtain ⟨h1, h2⟩ := bB_iff.mp hb'
      have hmh : 9000 ≤ mh := by decide
      refine ⟨_, rfl, _, rfl, _, rfl, x, dy, _, rfl, hx1, rfl, _, rfl, x, t, r, m, l, h, rfl, U.same s1, (by show h ≤ mh; omega), h1, h2.2.1, fun a da na nda ne => ?_⟩
      have sN : Same H' (upd (upd H' da (.own a)) a (.ins (gA K "Barred") da [])) := same_new na nda
      refine ⟨a, da, _, _, _, rfl, upd_same, fun H2 fs e2 s2 => ⟨rfl, k a da fs H2 (s1.trans (same_smB na sN s2)) (.inr ⟨e2, fun hf => hf h h1 h2⟩)⟩⟩
    · rintro j σ H' ⟨rfl, rfl⟩ ⟨s1, z, hz, hc⟩
      have hF : FreeAt wf t r m l := fun n hn hbar => by
        have e : bB wf t r m l n = true := bB_iff.mpr ⟨hn, hbar⟩
        rcases Nat.lt_or_ge n z with c | c
        · have := cnt_lt (B := bB wf t r m l) (Nat.zero_le n) c e
          rw [hc] at this
          exact absurd this (Nat.not_lt_zero _)
        · rw [hz n c] at e
          cases e
      refine ⟨_, rfl, fun a da na nda ne => ⟨a, da, _, rfl, upd_same, rfl, ?_⟩⟩
      have sN : Same H' (upd (upd H' da (.own a)) a (.ins (gA K "Free") da [])) := same_new na nda
      refine k a da _ _ (s1.trans (same_smB na sN fun c o hc' e => by rw [upd_ne hc']; exact e)) (.inl ⟨upd_same, hF⟩)
theorem bool_ok {C f : Addr} {qual : Str} {st : Stmt} {b : Bool} (F : FnT K "__bool__" qual st f) (S : FnScope ["self"] ["self"] (defScope st)) (hb : ∀ (kV doc pm : Value) (an : Option Addr) (cdv ct : Value) (us : List Value), us.length = 1 → bindArgs (PySem.W.fnOf "__bool__" qual (defArgs st) (defBody st) (defScope st) .none kV doc pm an cdv ct) ⟨us, []⟩ = pure ((["self"] : List Str).zip us))
    (hst : ∀ (cdv : Value) (A : Around) (outer : List Env) (s : Shared) (H : Hp) (E : XK), PSs (cxOf CX0 P w K mg base ["self"] qual (defScope st) f cdv A outer s H E) (defBody st) (tRet (tC (.bl b)))) : ∃ fd, FnOk P w K mg base CX0 1 f fd ["self"] (spBool C b) ∧ Binds K fd ["self"] [] := by
  obtain ⟨fd, F⟩ := F
  refine ⟨fd, F.ok S (fun vs H Q E h => ?_) (fun cdv A outer s H vs Q E hr h => ?_), F.bindsN hb⟩
  · obtain ⟨_, _, _, rfl, _⟩ := h
    rfl
  · obtain ⟨x, dx, v, rfl, hx, k⟩ := h
    exact ⟨_, hst cdv A outer s H E, k⟩
theorem ok_isFree (T : Txt P K mg) (KB : K.In base) : FnR P w K mg base CX0 10 (gA K "is_free") (spIsFree K) := by
  refine okR0 T.fIsFree scIsFree (fun _ _ _ _ _ _ us hl => match us, hl with | [_, _], _ => rfl) (fun vs H Q E h => ?_) (fun cdv A outer s H vs Q E hr h => ?_)
  · obtain ⟨_, _, _, _, _, _, _, _, _, rfl, _⟩ := h
    rfl
  · obtain ⟨p, x, wf, b, q, t, r, m, l, rfl, R, U, k⟩ := h
    obtain ⟨fd1, G1, b1⟩ := bool_ok (P := P) (w := w) (mg := mg) (base := base) (C := gA K "Free") (b := true) T.fFBool scFreeBool (fun _ _ _ _ _ _ us hl => match us, hl with | [_], _ => rfl) fun _ _ _ _ _ _ => pss_one (ps_ret pe_bl)
    obtain ⟨fd2, G2, b2⟩ := bool_ok (P := P) (w := w) (mg := mg) (base := base) (C := gA K "Barred") (b := false) T.fBBool scBarBool (fun _ _ _ _ _ _ us hl => match us, hl with | [_], _ => rfl) fun _ _ _ _ _ _ => pss_one (ps_ret pe_bl)
    refine ⟨_, pss_one (ps_ret (pe_callTy (T := "bool") (r := fun xs H Q => ∃ a dx fs, xs = [.ref a] ∧ ((H a = some (.ins (gA K "Free") dx fs) ∧ Q (.bl true) H) ∨ (H a = some (.ins (gA K "Barred") dx fs) ∧ Q (.bl false) H))) ?_ (by rfl) T.nBool (by decide +kernel)
      (pa_cons (pe_callR (ok_free T KB) hr T.gFree (by rfl) pass0 (pa_cons (pv 0) (pa_cons (pv 1) pa_nil))) pa_nil))), ?_⟩
    · intro pins s' σ H' xs us Q' I rr hh
      obtain ⟨a, dx, fs, rfl, ⟨ea, hq⟩ | ⟨ea, hq⟩⟩ := hh
      · exact callB_own T.bFree T.iFree G1 (hr.mono (by decide)) b1 pins s' σ H' _ us Q' I rr ⟨a, dx, fs, rfl, ea, a, dx, fs, rfl, ea, true, rfl, hq⟩
      · exact callB_own T.bBarred T.iBarred G2 (hr.mono (by decide)) b2 pins s' σ H' _ us Q' I rr ⟨a, dx, fs, rfl, ea, a, dx, fs, rfl, ea, false, rfl, hq⟩
    · refine ⟨_, rfl, _, rfl, p, x, wf, b, q, t, r, m, l, rfl, R, U, fun a dx fs H' s1 hh => ⟨a, dx, fs, rfl, ?_⟩⟩
      rcases hh with ⟨e, hf⟩ | ⟨e, hf⟩
      · exact .inl ⟨e, k true H' s1 ⟨fun _ => hf, fun _ => rfl⟩⟩
      · exact .inr ⟨e, k false H' s1 ⟨fun z => Bool.noConfusion z, fun z => absurd z hf⟩⟩
theorem ok_leastF (T : Txt P K mg) (KB : K.In base) {fd : FuncData} (F : FunD K "least_leave" "least_leave" (defArgs sLeast) (defBody sLeast) (defScope sLeast) [.int 0, .int 1] [] (gA K "least_leave") fd) :
    FnOk P w K mg base (L2.CX P w) 9 (gA K "least_leave") fd ["table", "size", "rest", "modulus"] (spLeast K) := by
  refine F.ok scLeast (fun vs H Q E h => ?_) (fun cdv A outer s H vs Q E hr h => ?_)
  · obtain ⟨_, _, _, _, _, _, _, rfl, _⟩ := h
    rfl
  · obtain ⟨p, v, vr, vm, wf, b, q, rfl, R, kv, kr, km, q1, q2, q3, q4⟩ := h
    obtain ⟨fdB, ds, G, hb, hd⟩ := bindBars (w := w) (base := base) T
    have nd := scLeast.nd
    refine ⟨_, pss_cons (ps_par (i := 4) (j := 5) rfl nd rfl rfl (by decide) rfl rfl (pa_cons (pe_makeR T.mkFixed (ok_fixed4 T) (hr.mono (by decide)) (by rfl) T.mgFixed thru (pa_cons (pv 1) (pa_cons (pv 2) (pa_cons (pv 3) pa_nil)))) (pa_cons pe_int pa_nil)) (by rfl))
      (pss_cons (ps_forG (i := 6) (passes_of rfl) rfl rfl rfl rfl G hr (by rfl) T.gBars.1 T.gBars.2 hb hd (pa_cons (pv 0) (pa_cons (pv 4) pa_nil)) nd rfl rfl
        (ssk_cons (sk_ifGe (ct_sub (ct_var (i := 6) rfl rfl) (ct_var (i := 1) rfl rfl)) (ct_fld (ct_var (i := 0) rfl rfl) rfl) (PSsK.of_ret (pss_one (ps_ret pe_non))) ssk_nil)
          (ssk_cons (sk_set (i := 5) nd rfl rfl (ct_add (ct_sub (ct_var (i := 6) rfl rfl) (ct_var (i := 1) rfl rfl)) ct_int)) ssk_nil)))
      (pss_one (ps_ret (pv 5)))), ?_⟩
    refine ⟨_, rfl, _, rfl, _, rfl, fun x dx nx ndx ne => ?_⟩
    have sN : Same H (upd (upd H dx (.own x)) x (.ins (gA K "Fixed") dx [])) := same_new nx ndx
    have kk : ∀ {v : V}, KdS K H v → KdA K (upd (upd H dx (.own x)) x (.ins (gA K "Fixed") dx [])) x v := fun kv H' s' => kv H' (same_smB nx sN s')
    have bb : ∀ {z : Str}, BadS K H E z → BadX K (upd (upd H dx (.own x)) x (.ins (gA K "Fixed") dx [])) x E z := fun hb d H' s' n e => hb d H' (same_smB nx sN s') (sN.free n) e
    refine ⟨x, dx, v, vr, vm, 0, rfl, upd_same, kk kv, kk kr, kk km, Nat.zero_le _, fun c => bb (q1 c), fun c c2 => bb (q2 c c2), fun m c e c2 c3 => bb (q3 m c e c2 c3), fun t r m et er em t1 t4 rm m6 H1 U s1 => ⟨rfl, ?_⟩⟩
    subst et er em
    have s01 : Same H H1 := same_smB nx sN s1
    have R1 := R.same s01
    obtain ⟨dt, tt, row, hp, ht, hl, hw⟩ := R1.at_
    have most := R1.most
    let B : Nat → Bool := bB wf t r m 0
    have hBstep : ∀ n, cnt B (n + 1) = cnt B n + if B n = true then 1 else 0 := fun _ => rfl
    have hB : ∀ n, B n = true ↔ Bar wf t r m n := fun n => ⟨fun h => (bB_iff.mp h).2, fun h => bB_iff.mpr ⟨h.1, h⟩⟩
    refine ⟨_, _, rfl, ?_⟩
    refine ⟨_, rfl, _, rfl, fun j v H' => ∃ h : Nat, v = .int h ∧ B h = true ∧ cnt B h = j ∧ Same H1 H', fun _ v => ∃ h : Nat, v = .int h ∧ h < max (t + 0) (b + t), fun j H' => Same H1 H' ∧ ∃ z, (∀ n, z ≤ n → B n = false) ∧ cnt B z = j,
      fun j σ => ∃ (g lv : Nat) (hv : Option V), σ = [some (.ref p), some (.int t), some (.int r), some (.int m), some (.ref x), some (.int lv), hv] ∧ g ≤ 2000 ∧ cnt B g = j ∧ (∀ n, n < g → B n = true → n + 1 ≤ lv + t) ∧ (lv = 0 ∨ B (lv - 1 + t) = true),
      ⟨p, x, wf, b, q, t, r, m, 0, rfl, R1, U, fun j h H' s' h1 h2 h3 => ⟨h, rfl, h1, h2, s'⟩, fun j v hm => hm, fun j z H' s' h1 h2 h3 => ⟨s', z, h1, h2⟩⟩, ⟨0, 0, none, rfl, Nat.zero_le _, rfl, fun n hn => absurd hn (Nat.not_lt_zero _), .inl rfl⟩, ?_, ?_, ?_⟩
    · rintro j σ ⟨g, lv, hv, rfl, hg, hc, _⟩
      have := cnt_le B g
      rw [sizeLine_eq]
      omega
    · rintro j σ v H' ⟨g, lv, hv, rfl, hg, hc, h3, h4⟩ ⟨h, rfl, hb', hcj, s2⟩
      have hbar := (hB h).mp hb'
      have hth := hbar.1
      have hp2 := s2 _ _ hp
      refine ⟨_, rfl, _, rfl, _, _, rfl, rfl, _, rfl, p, _, dt, _, _, rfl, hp2, T.clTable, T.naBegin, rfl, _, _, rfl, rfl, ?_⟩
      by_cases c : b ≤ h - t
      · rw [decide_eq_true (show (b : Int) ≤ (h : Int) - t by omega)]
        refine iteT (q4 t r m rfl rfl rfl t1 t4 rm m6 none H' (fun N => ?_) (s01.trans s2))
        refine bar_inf (L := q * m) R1.rep (Nat.mul_mod_right q m) (Nat.mul_mod_left q m) (Nat.mul_pos R1.q0 (by omega)) (n := h) (by omega) hbar N
      · rw [decide_eq_false (show ¬ (b : Int) ≤ (h : Int) - t by omega)]
        have e : (h : Int) - t + 1 = ((h - t + 1 : Nat) : Int) := by omega
        refine iteF ⟨_, rfl, _, rfl, _, _, rfl, rfl, _, _, rfl, rfl, ⟨h, rfl, by omega⟩, h + 1, h - t + 1, some (.int h), ?_, by omega, ?_, fun n hn hbn => by omega, .inr ?_⟩
        · rw [e]
          rfl
        · rw [hBstep, if_pos hb', hcj]
        · rw [show h - t + 1 - 1 + t = h by omega]
          exact hb'
    · rintro j σ H' ⟨g, lv, hv, rfl, hg, hc, h3, h4⟩ ⟨s2, z, hz, hcz⟩
      refine ⟨_, rfl, ?_⟩
      refine q4 t r m rfl rfl rfl t1 t4 rm m6 (some lv) H' ⟨fun n hn => ?_, ?_⟩ (s01.trans s2)
      · have hbn := (hB n).mpr hn
        rcases Nat.lt_or_ge n g with c | c
        · exact h3 n c hbn
        · rcases Nat.lt_or_ge n z with c2 | c2
          · have := cnt_lt (B := B) c c2 hbn
            omega
          · rw [hz n c2] at hbn
            cases hbn
      · rcases h4 with h4 | h4
        · exact .inl h4
        · exact .inr ((hB _).mp h4)
/-- table, size, rest, modulus -/
theorem ok_least4 (T : Txt P K mg) (KB : K.In base) : FnR P w K mg base (L2.CX P w) 9 (gA K "least_leave") (spLeast K) := by
  obtain ⟨fd, F⟩ := T.fLeast
  obtain ⟨ds, hv, hb⟩ := F.binds1 (ps := ["table", "size", "rest", "modulus"]) 4 2 (by simp) rfl (fun _ _ _ _ _ _ _ us its hl h2 => match us, its, hl, h2 with | [_, _, _, _], [_, _], _, _ => ⟨_, rfl, rfl⟩)
  exact ((ok_leastF T KB F).raw hb hv).imp fun vs H Q E h => by rw [show List.drop 2 [V.int 0, V.int 1] = [] from rfl, List.append_nil]; exact h
/-- table, size -/
theorem ok_least2 (T : Txt P K mg) (KB : K.In base) : FnR P w K mg base (L2.CX P w) 9 (gA K "least_leave") (fun vs H Q E => spLeast K (vs ++ [.int 0, .int 1]) H Q E) := by
  obtain ⟨fd, F⟩ := T.fLeast
  obtain ⟨ds, hv, hb⟩ := F.binds1 (ps := ["table", "size", "rest", "modulus"]) 2 0 (by simp) rfl (fun _ _ _ _ _ _ _ us its hl h2 => match us, its, hl, h2 with | [_, _], [_, _], _, _ => ⟨_, rfl, rfl⟩)
  exact (ok_leastF T KB F).raw hb hv
end
end FT
/-! A row's parts: ahead and again, and what changes nothing. Plain Lean. -/
namespace FTM
def tf (A g : List Int) (n : Nat) : Int := if n < A.length then A.getD n 0 else g.getD ((n - A.length) % g.length) 0
theorem tw_tf {row : List Int} {b q : Nat} (h : row.length = b + q) (hq : 0 < q) (n : Nat) : tw row b q n = tf (row.take b) (row.drop b) n := by
  have l1 : (row.take b).length = b := by rw [List.length_take]; omega
  have l2 : (row.drop b).length = q := by rw [List.length_drop]; omega
  unfold tw tf
  rw [l1, l2]
  by_cases c : n < b
  · rw [if_pos c, if_pos c]
    simp only [List.getD]
    rw [List.getElem?_take_of_lt c]
  · rw [if_neg c, if_neg c]
    simp only [List.getD]
    rw [List.getElem?_drop]
theorem tf_tw (A g : List Int) (hg : 0 < g.length) (n : Nat) : tw (A ++ g) A.length g.length n = tf A g n := by
  unfold tw tf
  by_cases c : n < A.length
  · rw [if_pos c, if_pos c]
    simp only [List.getD]
    rw [List.getElem?_append_left c]
  · rw [if_neg c, if_neg c]
    simp only [List.getD]
    rw [List.getElem?_append_right (by omega)]
    congr 2
    omega
/-- a row of itself again -/
theorem flat_len (xs : List Int) : ∀ k, (List.replicate k xs).flatten.length = k * xs.length
  | 0 => by simp
  | k + 1 => by
    rw [List.replicate_succ, List.flatten_cons, List.length_append, flat_len xs k, Nat.succ_mul]
    omega
theorem flat_get (xs : List Int) : ∀ (k i : Nat), i < k * xs.length → (List.replicate k xs).flatten.getD i 0 = xs.getD (i % xs.length) 0
  | 0, i, h => by rw [Nat.zero_mul] at h; omega
  | k + 1, i, h => by
    rw [List.replicate_succ, List.flatten_cons]
    rw [Nat.succ_mul] at h
    by_cases c : i < xs.length
    · rw [Nat.mod_eq_of_lt c]
      simp only [List.getD]
      rw [List.getElem?_append_left c]
    · have ih := flat_get xs k (i - xs.length) (by omega)
      simp only [List.getD] at ih ⊢
      rw [List.getElem?_append_right (by omega), ih]
      congr 2
      have e : i = (i - xs.length) + xs.length := by omega
      conv => rhs; rw [e, Nat.add_mod_right]
/-- one turn told by a part of it -/
theorem short_ok {g : List Int} {s : Nat} (hs : 0 < s) (hd : g.length % s = 0) (hg : 0 < g.length) (h : g = (List.replicate (g.length / s) (g.take s)).flatten) (n : Nat) :
    (g.take s).getD (n % (g.take s).length) 0 = g.getD (n % g.length) 0 := by
  have hle : s ≤ g.length := Nat.le_of_dvd hg (Nat.dvd_of_mod_eq_zero hd)
  have hl : (g.take s).length = s := by rw [List.length_take]; omega
  have e : g.length = g.length / s * s := by
    have := Nat.div_add_mod g.length s
    rw [hd, Nat.add_zero, Nat.mul_comm] at this
    exact this.symm
  have hm : n % g.length < g.length / s * (g.take s).length := by
    rw [hl, ← e]
    exact Nat.mod_lt _ hg
  have f := flat_get (g.take s) (g.length / s) (n % g.length) hm
  rw [← h] at f
  rw [f, hl, Nat.mod_mod_of_dvd n (Nat.dvd_of_mod_eq_zero hd)]
theorem tf_congr {A g g' : List Int} (h : ∀ n, g'.getD (n % g'.length) 0 = g.getD (n % g.length) 0) (n : Nat) : tf A g' n = tf A g n := by
  unfold tf
  rw [h]
/-- the last of those that come again, put ahead of them; the last of those ahead, dropped -/
theorem tf_turn {A g : List Int} {k : Nat} {z : Int} (hk : k < A.length) (h : A.getD k 0 = z) (n : Nat) : tf (A.take k) (z :: g) n = tf (A.take (k + 1)) (g ++ [z]) n := by
  have l1 : (A.take k).length = k := by rw [List.length_take]; omega
  have l2 : (A.take (k + 1)).length = k + 1 := by rw [List.length_take]; omega
  unfold tf
  rw [l1, l2]
  have hl : (g ++ [z]).length = g.length + 1 := by simp
  have hl' : (z :: g).length = g.length + 1 := by simp
  rw [hl, hl']
  rcases Nat.lt_trichotomy n k with c | c | c
  · rw [if_pos c, if_pos (by omega)]
    simp only [List.getD]
    rw [List.getElem?_take_of_lt c, List.getElem?_take_of_lt (by omega)]
  · subst c
    rw [if_neg (by omega), if_pos (by omega), Nat.sub_self, Nat.zero_mod]
    simp only [List.getD]
    rw [List.getElem?_take_of_lt (by omega)]
    simp only [List.getD] at h
    rw [h]
    rfl
  · rw [if_neg (by omega), if_neg (by omega)]
    obtain ⟨d, rfl⟩ : ∃ d, n = k + 1 + d := ⟨n - (k + 1), by omega⟩
    rw [show k + 1 + d - (k + 1) = d by omega, show k + 1 + d - k = d + 1 by omega]
    have hm := Nat.mod_lt d (show 0 < g.length + 1 by omega)
    rcases Nat.lt_or_ge (d % (g.length + 1)) g.length with c2 | c2
    · have e : (d + 1) % (g.length + 1) = d % (g.length + 1) + 1 := by
        rw [Nat.add_mod]
        by_cases g0 : g.length = 0
        · omega
        · rw [Nat.mod_eq_of_lt (show 1 < g.length + 1 by omega), Nat.mod_eq_of_lt (by omega)]
      rw [e]
      simp only [List.getD]
      rw [List.getElem?_cons_succ, List.getElem?_append_left c2]
    · have e0 : d % (g.length + 1) = g.length := by omega
      have e : (d + 1) % (g.length + 1) = 0 := by
        have := Nat.div_add_mod d (g.length + 1)
        rw [e0] at this
        rw [show d + 1 = (g.length + 1) * (d / (g.length + 1)) + (g.length + 1) by omega, Nat.add_mod_right, Nat.mul_mod_right]
      rw [e, e0]
      simp [List.getD]
end FTM
/-! The walk: a table made. -/
namespace FT
open PySem PySem.Spec PyProof.Rows L2 FTM FTG
open PySem.W (Frag)
theorem dpAll_ints {K : Frag} {H : Hp} : ∀ ns : List Int, DpAll K H (ns.map V.int) (ns.map PyData.int)
  | [] => .nil
  | n :: r => .cons (.int n) (dpAll_ints r)
theorem eqvAll_ints : ∀ ns ms : List Int, PyData.eqvAll (ns.map PyData.int) (ms.map PyData.int) = decide (ns = ms)
  | [], [] => by simp [PyData.eqvAll]
  | [], _ :: _ => by simp [PyData.eqvAll]
  | _ :: _, [] => by simp [PyData.eqvAll]
  | a :: r, b :: s => by
    have ih := eqvAll_ints r s
    simp only [List.map_cons, PyData.eqvAll, PyData.eqv, ih]
    by_cases c : a = b
    · subst c; simp
    · have : (a == b) = false := by simpa using c
      rw [this]
      simp [c]
theorem canAll_ints : ∀ ns : List Int, PyData.canLayAll0 (ns.map PyData.int) = true
  | [] => rfl
  | n :: r => by simp only [List.map_cons, PyData.canLayAll0, PyData.canLay0, canAll_ints r]; rfl
theorem depAll_ints : ∀ ns : List Int, PyData.depthAll (ns.map PyData.int) ≤ 1
  | [] => by simp [PyData.depthAll]
  | n :: r => by
    have := depAll_ints r
    simp only [List.map_cons, PyData.depthAll, PyData.depth]
    omega
theorem shaped_ints (ns : List Int) : SeqAt.shaped (.tuple (ns.map PyData.int)) = true := by
  unfold SeqAt.shaped
  have h1 : (PyData.tuple (ns.map PyData.int)).canLay0 = true := canAll_ints ns
  have h2 := depAll_ints ns
  rw [h1, Bool.true_and]
  refine decide_eq_true ?_
  simp only [PyData.depth]
  omega
def spAreW (K : Frag) : Sp := fun vs H Q _ => ∃ (a : Addr) (row : List Int), vs = [.ref a, .int row.length] ∧ H a = some (.lst (row.map V.int)) ∧ row.length ≤ 1000 ∧ row[0]? = some 0 ∧ (∀ z ∈ row, 0 ≤ z ∧ z ≤ 400) ∧ ∀ H', Same H H' → Q (.bl true) H'
def spShort (K : Frag) : Sp := fun vs H Q _ => ∃ (a : Addr) (g : List Int), vs = [.ref a] ∧ H a = some (.tup (g.map V.int)) ∧ 0 < g.length ∧ g.length ≤ 1000 ∧
  ∀ (a' : Addr) (g' : List Int) (H' : Hp), Same H H' → H' a' = some (.tup (g'.map V.int)) → 0 < g'.length → g'.length ≤ g.length → (∀ n, g'.getD (n % g'.length) 0 = g.getD (n % g.length) 0) → Q (.ref a') H'
def spLForm (K : Frag) : Sp := fun vs H Q _ => ∃ (a c : Addr) (A g : List Int), vs = [.ref a, .ref c] ∧ H a = some (.tup (A.map V.int)) ∧ H c = some (.tup (g.map V.int)) ∧ 0 < g.length ∧ g.length ≤ 1000 ∧ A.length ≤ 1000 ∧
  ∀ (p a' c' : Addr) (A' g' : List Int) (H' : Hp), Same H H' → H' p = some (.tup [.ref a', .ref c']) → H' a' = some (.tup (A'.map V.int)) → H' c' = some (.tup (g'.map V.int)) → 0 < g'.length → g'.length ≤ g.length → A'.length ≤ A.length → (∀ n, tf A' g' n = tf A g n) → Q (.ref p) H'
def spTinit (K : Frag) : Sp := fun vs H Q _ => ∃ (x dx a : Addr) (b q : Nat) (row : List Int), vs = [.ref x, .int b, .int q, .ref a] ∧ H x = some (.ins (gA K "Table") dx []) ∧ H a = some (.lst (row.map V.int)) ∧ row.length = b + q ∧ 0 < q ∧ b + q ≤ 1000 ∧
  row[0]? = some 0 ∧ (∀ z ∈ row, 0 ≤ z ∧ z ≤ 400) ∧ ∀ H' k p, TabAt K H' x (tw row b q) k p → SmB x H H' → Q .non H'
section
variable {P : Program} {w : World} {K : Frag} {mg : Str → Option Value} {base : Heap}
theorem same_upd {H H' : Hp} {a : Addr} {o : HO} (s : Same H H') (n : H' a = none) : Same H (upd H' a o) := fun b u e => by
  rw [upd_ne (ne_of_none (s b u e) n)]
  exact s b u e
theorem ok_areW (T : Txt P K mg) : FnR P w K mg base CX0 2 (gA K "are_worths") (spAreW K) := by
  refine okR0 T.fAreW scAreW (fun _ _ _ _ _ _ us hl => match us, hl with | [_, _], _ => rfl) (fun vs H Q E h => ?_) (fun cdv A outer s H vs Q E hr h => ?_)
  · obtain ⟨_, _, rfl, _⟩ := h
    rfl
  · obtain ⟨a, row, rfl, ha, hl, h0, hr0, k⟩ := h
    have nd := scAreW.nd
    obtain ⟨tt, ht⟩ := T.cMW
    refine ⟨_, pss_cons (ps_if (PW.pt (pw_or (pt_not (pt_val (pe_callB call_isiT (by rfl) T.nIsi (by decide +kernel) (pa_cons (pv 0) (pa_cons (pe_tup (pa_cons (pe_bltn (v := .ty "list") (u := .type "list") (by rfl) T.nList (by decide +kernel) rfl) (pa_cons (pe_bltn (v := .ty "tuple") (u := .type "tuple") (by rfl) T.nTuple (by decide +kernel) rfl) pa_nil))) pa_nil)))))
        (pw_or1 (pt_cmpR op_ne (pe_callB call_len_seq (by rfl) T.nLen (by decide +kernel) (pa_cons (pv 0) pa_nil)) (pv 1) (nomark _))))) pss_never pss_nil)
      (pss_one (ps_ret (pe_and (pe_callB (cr_all rfl) (by rfl) T.nAll (by decide +kernel) (pa_cons (pe_lc (own := [("worth", 2)]) (g := gName 2) (tt := tYes) rfl nd (pi_list (pv 0)) (blkOk_by (N := ["value", "many", "worth"]) (sc := defScope sAreW) (by decide +kernel)) (fun _ _ _ _ _ => pg_name (i := 2) nd rfl (Or.inl rfl)) (fun _ _ _ _ _ => pts_nil)
          (fun _ _ _ _ _ => pe_callR (ok_isInt T) hr T.gIsInt (by rfl) pass0 (pa_cons (pv 2) (pa_cons pe_int (pa_cons (pe_glob (by rfl) ht relInt) pa_nil))))) pa_nil))
        (pe_one (pe_cmpR op_eq (pe_ix ix_list (pv 0) pe_int (fun _ _ => rfl)) pe_int (nomark _)))))), ?_⟩
    refine ⟨_, rfl, (by show 2 ≤ sizeLine; decide), fun pt npt => ?_⟩
    have s1 : Same H (upd H pt (.tup [.ty "list", .ty "tuple"])) := same_upd (fun _ _ e => e) npt
    have ha1 := s1 _ _ ha
    refine ⟨.ref a, pt, _, _, _, true, rfl, upd_same, .cons (.ty "list") (.cons (.ty "tuple") .nil), .base (.lst ha1), kitAny_cons (b := true) (kit_ty (by decide +kernel)) (fun z => Bool.noConfusion z) (fun _ => rfl), _, rfl, ?_⟩
    refine iteF ?_
    refine ⟨_, rfl, a, _, rfl, .inl (SqL.of ha1), _, rfl, rfl, _, rfl, ?_⟩
    rw [List.length_map]
    rw [show (!decide (V.int (row.length : Int) = V.int (row.length : Int))) = false by simp]
    refine iteF ?_
    refine ⟨_, rfl, a, rfl, ⟨_, SqL.of ha1⟩, fun D hD => lc_list (K := K) (a := a) (xs := row.map V.int) (fun i H' => Same (upd H pt (.tup [.ty "list", .ty "tuple"])) H' ∧ H' D = some (.lst ((List.replicate i true).map V.bl))) ?_ ?_ ?_ ?_⟩
    · exact ⟨same_upd (fun _ _ e => e) hD, upd_same⟩
    · exact fun i H' _ h => h.1.seq (SqL.of ha1)
    · rintro i y H' hi ⟨s2, hD2⟩
      obtain ⟨z, hz, rfl⟩ : ∃ z, row[i]? = some z ∧ y = V.int z := by
        rw [List.getElem?_map] at hi
        cases e : row[i]? with
        | none => rw [e] at hi; cases hi
        | some z => rw [e] at hi; exact ⟨z, rfl, (Option.some.inj hi).symm⟩
      have hm := hr0 z (List.mem_of_getElem? hz)
      have hi2 := (List.getElem?_eq_some_iff.mp hz).1
      refine ⟨rfl, ?_⟩
      refine ⟨_, rfl, _, _, _, rfl, Kd.int _, _, hD2, ?_, ?_, ?_⟩
      · rw [List.length_map, List.length_replicate, sizeLine_eq]
        omega
      · intro o e z'
        rw [upd_ne (fun (w' : o = D) => by rw [w', hD] at z'; cases z')]
        exact s2 _ _ z'
      · have e : okInt (.int z) 0 400 = true := by simp [okInt]; omega
        rw [upd_same, e]
        show some (HO.lst ((List.replicate i true).map V.bl ++ [V.bl true])) = _
        rw [List.replicate_succ', List.map_append]
        rfl
    · rintro H' ⟨s2, hD2⟩
      rw [List.length_map] at hD2
      refine ⟨D, _, rfl, SqL.of hD2, true, ?_, ?_⟩
      · congr 1
        simp
      · refine iteT ⟨_, rfl, a, _, 0, _, rfl, rfl, SqL.of (s2 _ _ ha1), atI_nat (j := 0) (v := .int 0) (by rw [List.getElem?_map, h0]; rfl), rfl, ?_⟩
        exact k H' (s1.trans s2)
theorem cut_to {xs : List Int} {s : Nat} (h : s ≤ xs.length) : cutV (xs.map V.int) none (some (s : Int)) = (xs.take s).map V.int := by
  unfold cutV HT.sIx
  simp only [List.length_map]
  rw [if_neg (by omega), List.drop_zero, List.map_take]
  congr 1
  omega
theorem ok_short (T : Txt P K mg) : FnR P w K mg base CX0 1 (gA K "shortest_turn") (spShort K) := by
  refine okR0 T.fShort scShort (fun _ _ _ _ _ _ us hl => match us, hl with | [_], _ => rfl) (fun vs H Q E h => ?_) (fun cdv A outer s H vs Q E hr h => ?_)
  · obtain ⟨_, _, rfl, _⟩ := h
    rfl
  · obtain ⟨a, g, rfl, ha, g0, gm, k⟩ := h
    have nd := scShort.nd
    refine ⟨_, pss_cons (ps_set (i := 1) nd rfl (Or.inl rfl) (pe_callB call_len_seq (by rfl) T.nLen (by decide +kernel) (pa_cons (pv 0) pa_nil)))
      (pss_cons (ps_for PassesOwn.never rfl (pi_range2 rfl T.nRange (pa_cons pe_int (pa_cons (pv 1) pa_nil))) (pg_name (i := 2) nd rfl (Or.inl rfl))
        (pss_one (ps_if (PW.pt (pw_and (pt_cmpR op_eq (pe_op op_mod (pv 1) (pv 2)) pe_int (nomark _)) (pw_and1 (pt_cmpR (op_eqD hr.units) (pv 0) (pe_op op_repT (pe_slice sl_tupA (pv 0) po_none (po_some (pv 2))) (pe_op op_fdiv (pv 1) (pv 2))) (nomark _)))))
          (pss_one (ps_ret (pe_slice sl_tupA (pv 0) po_none (po_some (pv 2))))) pss_nil)))
      (pss_one (ps_ret (pv 0)))), ?_⟩
    refine ⟨_, rfl, a, _, rfl, .inr (SqT.of ha), ?_⟩
    rw [List.length_map]
    refine ⟨_, rfl, _, _, rfl, ⟨by omega, by omega, by omega, by omega⟩, for_range (fun i σ H' => (∃ hv, σ = [some (.ref a), some (.int (g.length : Nat)), hv]) ∧ Same H H') ⟨⟨_, rfl⟩, fun _ _ e => e⟩ ?_ ?_⟩
    · rintro i σ H1 hi ⟨⟨hv, rfl⟩, s1⟩
      have hs : i + 1 < g.length := by omega
      have e1 : (1 : Int) + (i : Int) = ((i + 1 : Nat) : Int) := by omega
      have ha1 := s1 _ _ ha
      refine ⟨_, rfl, _, rfl, _, _, rfl, rfl, (by show (0 : Int) < 1 + (i : Int); omega), rfl, _, rfl, ?_⟩
      show if decide (V.int ((g.length : Int) % (1 + (i : Int))) = V.int 0) = true then _ else _
      rw [dec_int, e1, imod]
      by_cases hd : g.length % (i + 1) = 0
      · rw [hd]
        have lt : (g.take (i + 1)).length = i + 1 := by rw [List.length_take]; omega
        have nw : ¬ (HT.sIx (g.map V.int).length 0 none = 0 ∧ HT.sIx (g.map V.int).length (g.map V.int).length (some (((i + 1 : Nat) : Int))) = (g.map V.int).length) := fun q => by
          have q2 := q.2
          unfold HT.sIx at q2
          rw [List.length_map] at q2
          simp only at q2
          rw [if_neg (by omega)] at q2
          omega
        have k2 : 2 ≤ g.length / (i + 1) := by
          have := Nat.div_add_mod g.length (i + 1)
          rw [hd] at this
          rcases Nat.lt_or_ge (g.length / (i + 1)) 2 with c | c
          · have : (i + 1) * (g.length / (i + 1)) ≤ (i + 1) * 1 := Nat.mul_le_mul_left _ (by omega)
            omega
          · exact c
        refine iteT ⟨_, rfl, _, rfl, _, rfl, _, rfl, a, _, rfl, SqT.of ha1, fun q => absurd q nw, fun _ p1 hp1 => ?_⟩
        rw [cut_to (by omega)]
        refine ⟨_, rfl, _, rfl, _, _, rfl, rfl, ⟨by omega, by omega⟩, ?_⟩
        refine ⟨p1, _, _, rfl, rfl, SqT.of upd_same, ?_, ?_, ?_, ?_, fun p2 hp2 => ?_⟩
        · intro q
          have := congrArg List.length q
          rw [List.length_map, lt] at this
          simp at this
        · rw [idiv]; omega
        · rw [idiv]
          have := Nat.div_le_self g.length (i + 1)
          omega
        · rw [List.length_map, lt]; omega
        · have hk : ((g.length : Int) / ((i + 1 : Nat) : Int)).toNat = g.length / (i + 1) := by rw [idiv]; omega
          have ef : (List.replicate (g.length / (i + 1)) ((g.take (i + 1)).map V.int)).flatten = ((List.replicate (g.length / (i + 1)) (g.take (i + 1))).flatten).map V.int := by
            rw [List.map_flatten, List.map_replicate]
          have s2 : Same H1 (upd (upd H1 p1 (.tup ((g.take (i + 1)).map V.int))) p2 (.tup ((List.replicate (g.length / (i + 1)) (g.take (i + 1))).flatten.map V.int))) :=
            same_upd (same_upd (fun _ _ e => e) hp1) hp2
          show rEqD _ _ _ (upd _ p2 (HO.tup (List.replicate ((g.length : Int) / ((i + 1 : Nat) : Int)).toNat ((g.take (i + 1)).map V.int)).flatten)) _
          rw [hk, ef]
          refine ⟨_, _, .tup (SqT.of (s2 _ _ ha1)) (dpAll_ints g), .tup (SqT.of upd_same) (dpAll_ints _), shaped_ints _, shaped_ints _, ?_⟩
          refine ⟨_, rfl, ?_⟩
          rw [show PyData.eqv (.tuple (g.map PyData.int)) (.tuple ((List.replicate (g.length / (i + 1)) (g.take (i + 1))).flatten.map PyData.int)) = decide (g = (List.replicate (g.length / (i + 1)) (g.take (i + 1))).flatten) by
            rw [← eqvAll_ints, PyData.eqv]]
          by_cases he : g = (List.replicate (g.length / (i + 1)) (g.take (i + 1))).flatten
          · rw [decide_eq_true he]
            refine iteT ⟨_, rfl, _, rfl, _, rfl, a, _, rfl, SqT.of (s2 _ _ ha1), fun q => absurd q nw, fun _ p3 hp3 => ?_⟩
            rw [cut_to (by omega)]
            refine k p3 (g.take (i + 1)) _ (s1.trans (same_upd s2 hp3)) upd_same (by omega) (by omega) fun n => short_ok (by omega) hd g0 he n
          · rw [decide_eq_false he]
            exact iteF ⟨⟨_, rfl⟩, s1.trans s2⟩
      · rw [decide_eq_false (show ¬ ((g.length % (i + 1) : Nat) : Int) = 0 by omega)]
        exact iteF ⟨⟨_, rfl⟩, s1⟩
    · rintro σ H1 ⟨⟨hv, rfl⟩, s1⟩
      exact ⟨_, rfl, k a g H1 s1 (s1 _ _ ha) g0 (Nat.le_refl _) fun _ => rfl⟩
theorem sl_to {K : Frag} {a : Addr} {A : List Int} {k : Nat} {H : Hp} {Q : VK} (ha : H a = some (.tup (A.map V.int))) (hk : k ≤ A.length) (q : ∀ u H1, Same H H1 → H1 u = some (.tup ((A.take k).map V.int)) → Q (.ref u) H1) :
    rSlA K (.ref a) none (some (k : Int)) H Q := by
  refine ⟨a, _, rfl, SqT.of ha, fun w' => ?_, fun _ p hp => ?_⟩
  · have e : k = A.length := by
      have q2 := w'.2
      unfold HT.sIx at q2
      rw [List.length_map] at q2
      simp only at q2
      rw [if_neg (by omega)] at q2
      omega
    refine q a H (fun _ _ e => e) ?_
    rw [e, List.take_length]
    exact ha
  · rw [cut_to hk]
    exact q p _ (same_upd (fun _ _ e => e) hp) upd_same
theorem sl_last {K : Frag} {a : Addr} {g : List Int} {z : Int} {H : Hp} {Q : VK} (ha : H a = some (.tup ((g ++ [z]).map V.int))) (q : ∀ u H1, Same H H1 → H1 u = some (.tup [.int z]) → Q (.ref u) H1) :
    rSlA K (.ref a) (some (-1)) none H Q := by
  have l : ((g ++ [z]).map V.int).length = g.length + 1 := by simp
  have s0 : HT.sIx (g.length + 1) 0 (some (-1)) = g.length := by
    unfold HT.sIx
    simp only
    rw [if_pos (by omega)]
    omega
  refine ⟨a, _, rfl, SqT.of ha, fun w' => ?_, fun _ p hp => ?_⟩
  · have q2 := w'.1
    rw [l, s0] at q2
    have e : g = [] := List.eq_nil_of_length_eq_zero q2
    subst e
    exact q a H (fun _ _ e => e) ha
  · refine q p _ (same_upd (fun _ _ e => e) hp) ?_
    rw [upd_same]
    congr 2
    unfold cutV
    rw [l, s0, List.map_append, show HT.sIx (g.length + 1) (g.length + 1) none = g.length + 1 from rfl]
    rw [List.drop_append_of_le_length (by simp), List.drop_eq_nil_of_le (by simp)]
    simp
theorem sl_init {K : Frag} {a : Addr} {g : List Int} {z : Int} {H : Hp} {Q : VK} (ha : H a = some (.tup ((g ++ [z]).map V.int))) (q : ∀ u H1, Same H H1 → H1 u = some (.tup (g.map V.int)) → Q (.ref u) H1) :
    rSlA K (.ref a) none (some (-1)) H Q := by
  have l : ((g ++ [z]).map V.int).length = g.length + 1 := by simp
  have s0 : HT.sIx (g.length + 1) (g.length + 1) (some (-1)) = g.length := by
    unfold HT.sIx
    simp only
    rw [if_pos (by omega)]
    omega
  refine ⟨a, _, rfl, SqT.of ha, fun w' => ?_, fun _ p hp => ?_⟩
  · have q2 := w'.2
    rw [l, s0] at q2
    omega
  · refine q p _ (same_upd (fun _ _ e => e) hp) ?_
    rw [upd_same]
    congr 2
    unfold cutV
    rw [l, s0, show HT.sIx (g.length + 1) 0 none = 0 from rfl, List.drop_zero, List.map_append, Nat.sub_zero]
    rw [List.take_append_of_le_length (by simp), List.take_of_length_le (by simp)]
theorem cat_ok {K : Frag} {a b : Addr} {g : List Int} {z : Int} {H : Hp} {Q : VK} (ha : H a = some (.tup [.int z])) (hb : H b = some (.tup (g.map V.int))) (hl : g.length ≤ 1000) (q : ∀ u H1, Same H H1 → H1 u = some (.tup ((z :: g).map V.int)) → Q (.ref u) H1) :
    rCatA K (.ref a) (.ref b) H Q := by
  refine ⟨a, b, _, _, rfl, rfl, SqT.of ha, SqT.of hb, ?_, (fun e => nomatch e), fun _ e => ?_, fun _ _ p hp => ?_⟩
  · rw [List.length_map, sizeLine_eq]
    simp
    omega
  · have e' : g = [] := List.map_eq_nil_iff.mp e
    subst e'
    exact q a H (fun _ _ e => e) ha
  · exact q p _ (same_upd (fun _ _ e => e) hp) upd_same
theorem ok_lform (T : Txt P K mg) : FnR P w K mg base CX0 2 (gA K "least_form") (spLForm K) := by
  refine okR0 T.fLForm scLForm (fun _ _ _ _ _ _ us hl => match us, hl with | [_, _], _ => rfl) (fun vs H Q E h => ?_) (fun cdv A outer s H vs Q E hr h => ?_)
  · obtain ⟨_, _, _, _, rfl, _⟩ := h
    rfl
  · obtain ⟨a, c, B, g, rfl, ha, hc, g0, gm, am, k⟩ := h
    have nd := scLForm.nd
    refine ⟨_, pss_cons (ps_set (i := 1) nd rfl (Or.inl rfl) (pe_callR (ok_short T) hr T.gShort (by rfl) pass0 (pa_cons (pv 1) pa_nil)))
      (pss_cons (ps_set (i := 2) nd rfl (Or.inl rfl) (pe_callB call_len_seq (by rfl) T.nLen (by decide +kernel) (pa_cons (pv 0) pa_nil)))
      (pss_cons (ps_while PassesOwn.never (PW.pt (pw_and (pt_cmpR op_gt (pv 2) pe_int (nomark _)) (pw_and1 (pt_cmpR op_eq (pe_ix ix_tup (pv 0) (pe_op op_sub (pv 2) pe_int) (fun _ _ => rfl)) (pe_ix ix_tup (pv 1) (pe_un un_neg pe_int) (fun _ _ => rfl)) (nomark _)))))
        (pss_cons (ps_set (i := 1) nd rfl (Or.inl rfl) (pe_op op_catA (pe_slice sl_tupA (pv 1) (po_some (pe_un un_neg pe_int)) po_none) (pe_slice sl_tupA (pv 1) po_none (po_some (pe_un un_neg pe_int)))))
          (pss_one (ps_set (i := 2) nd rfl (Or.inl rfl) (pe_op op_sub (pv 2) pe_int)))))
      (pss_one (ps_ret (pe_tup (pa_cons (pe_slice sl_tupA (pv 0) po_none (po_some (pv 2))) (pa_cons (pv 1) pa_nil))))))), ?_⟩
    refine ⟨_, rfl, c, g, rfl, hc, g0, gm, fun c1 g1 H1 s1 hc1 g10 g1m per => ?_⟩
    refine ⟨_, rfl, a, _, rfl, .inr (SqT.of (s1 _ _ ha)), ?_⟩
    rw [List.length_map]
    refine ⟨fun m σ H' => ∃ (c' : Addr) (g' : List Int), σ = [some (.ref a), some (.ref c'), some (.int (m : Nat))] ∧ Same H H' ∧ H' c' = some (.tup (g'.map V.int)) ∧ 0 < g'.length ∧ g'.length ≤ g.length ∧ m ≤ B.length ∧ ∀ n, tf (B.take m) g' n = tf B g n,
      ⟨B.length, c1, g1, rfl, s1, hc1, g10, g1m, Nat.le_refl _, fun n => by rw [List.take_length]; exact tf_congr per n⟩, ?_⟩
    rintro m σ H2 ⟨c', g', rfl, s2, hc', g'0, g'm, mB, hw⟩
    -- what follows the loop
    have fin : ∀ H3, Same H H3 → H3 c' = some (.tup (g'.map V.int)) → tRet (tTup (tCons (tSl (rSlA K) (tVar 0) tNoPart (tPart (tVar 2))) (tCons (tVar 1) tNil))) { nx := fun x H' => Q V.non H', rt := Q } [some (.ref a), some (.ref c'), some (.int (m : Nat))] H3 := by
      intro H3 s3 hc3
      refine ⟨_, rfl, _, rfl, _, rfl, sl_to (s3 _ _ ha) mB fun u H4 s4 hu => ⟨_, rfl, (by show 2 ≤ sizeLine; decide), fun p hp => ?_⟩⟩
      have s5 : Same H4 (upd H4 p (.tup [.ref u, .ref c'])) := same_upd (fun _ _ e => e) hp
      refine k p u c' (B.take m) g' _ (s3.trans (s4.trans s5)) upd_same (s5 _ _ hu) (s5 _ _ (s4 _ _ hc3)) g'0 g'm ?_ hw
      rw [List.length_take]
      omega
    refine ⟨_, rfl, _, _, rfl, rfl, _, rfl, ?_⟩
    by_cases hm : m = 0
    · subst hm
      exact iteF (fin H2 s2 hc')
    · rw [decide_eq_true (show (0 : Int) < (m : Nat) by omega)]
      obtain ⟨init, z, rfl⟩ : ∃ init z, g' = init ++ [z] := by
        rcases List.eq_nil_or_concat g' with e | ⟨i, z, e⟩
        · subst e; simp at g'0
        · exact ⟨i, z, by simpa using e⟩
      have e1 : ((m : Nat) : Int) - 1 = ((m - 1 : Nat) : Int) := by omega
      have hi : atI (B.map V.int) (((m : Nat) : Int) - 1) = some (.int (B.getD (m - 1) 0)) := by rw [e1]; exact atRow (by omega)
      have hz : atI ((init ++ [z]).map V.int) (-1) = some (.int z) := by rw [List.map_append]; exact atI_last _ _
      refine iteT ⟨_, rfl, _, rfl, _, _, rfl, rfl, a, _, _, _, rfl, rfl, SqT.of (s2 _ _ ha), hi, _, rfl, _, rfl, c', _, _, _, rfl, rfl, SqT.of hc', hz, rfl, _, rfl, ?_⟩
      rw [dec_int]
      by_cases he : B.getD (m - 1) 0 = z
      · rw [decide_eq_true he]
        refine iteT ⟨fun σ' H' => ∃ (c' : Addr) (g' : List Int), σ' = [some (.ref a), some (.ref c'), some (.int ((m - 1 : Nat) : Int))] ∧ Same H H' ∧ H' c' = some (.tup (g'.map V.int)) ∧ 0 < g'.length ∧ g'.length ≤ g.length ∧ m - 1 ≤ B.length ∧ ∀ n, tf (B.take (m - 1)) g' n = tf B g n,
          fun σ' H' h => ⟨m - 1, by omega, h⟩, ?_⟩
        refine ⟨_, rfl, _, rfl, _, rfl, ?_⟩
        dsimp only [tNoPart]
        refine sl_last hc' fun u1 H3 s3 hu1 => ?_
        refine ⟨_, rfl, _, rfl, _, rfl, ?_⟩
        dsimp only
        refine sl_init (s3 _ _ hc') fun u2 H4 s4 hu2 => ?_
        have gl : (init ++ [z]).length = init.length + 1 := by simp
        refine cat_ok (s4 _ _ hu1) hu2 (by omega) fun u3 H5 s5 hu3 => ?_
        refine ⟨_, rfl, _, _, rfl, rfl, u3, z :: init, ?_, s2.trans (s3.trans (s4.trans s5)), hu3, by simp, by simp; omega, by omega, fun n => ?_⟩
        · show [some (V.ref a), some (.ref u3), some (.int (((m : Nat) : Int) - 1))] = _
          rw [e1]
        · rw [tf_turn (by omega) he, show m - 1 + 1 = m by omega]
          exact hw n
      · rw [decide_eq_false he]
        exact iteF (fin H2 s2 hc')
end
end FT
/-! The walk: Table.__init__. -/
namespace FT
open PySem PySem.Spec PyProof.Rows L2 FTM FTG
open PySem.W (Frag)
theorem cut_from {xs : List Int} {s : Nat} (h : s ≤ xs.length) : cutV (xs.map V.int) (some (s : Int)) none = (xs.drop s).map V.int := by
  unfold cutV HT.sIx
  simp only [List.length_map]
  rw [if_neg (by omega), ← List.map_drop, ← List.map_take]
  congr 1
  rw [show min ((s : Int).toNat) xs.length = s by omega]
  exact List.take_of_length_le (by rw [List.length_drop]; exact Nat.le_refl _)
section
variable {P : Program} {w : World} {K : Frag} {mg : Str → Option Value} {base : Heap}
theorem ok_tinit (T : Txt P K mg) : FnR P w K mg base CX0 3 (mA K "Table" "__init__") (spTinit K) := by
  refine okR0 T.fTinit scTinit (fun _ _ _ _ _ _ us hl => match us, hl with | [_, _, _, _], _ => rfl) (fun vs H Q E h => ?_) (fun cdv A outer s H vs Q E hr h => ?_)
  · obtain ⟨_, _, _, _, _, _, rfl, _⟩ := h
    rfl
  · obtain ⟨x, dx, a, b, q, row, rfl, hx, ha, hl, q0, most, h0, hw, k⟩ := h
    have nd := scTinit.nd
    obtain ⟨tt, ht⟩ := T.cMP
    have hr1 : Room 1 _ := hr.mono (by decide)
    refine ⟨_, pss_cons (ps_if (pt_not (pt_val (pe_callR (ok_isInt T) hr1 T.gIsInt (by rfl) pass0 (pa_cons (pv 1) (pa_cons pe_int (pa_cons (pe_glob (by rfl) ht relInt) pa_nil)))))) pss_never pss_nil)
      (pss_cons (ps_if (pt_not (pt_val (pe_callR (ok_isInt T) hr1 T.gIsInt (by rfl) pass0 (pa_cons (pv 2) (pa_cons pe_int (pa_cons (pe_glob (by rfl) ht relInt) pa_nil)))))) pss_never pss_nil)
      (pss_cons (ps_if (pt_not (pt_val (pe_callR (ok_areW T) hr T.gAreW (by rfl) pass0 (pa_cons (pv 3) (pa_cons (pe_op op_add (pv 1) (pv 2)) pa_nil))))) pss_never pss_nil)
      (pss_cons (ps_asg (pe_callR (ok_lform T) hr T.gLForm (by rfl) pass0 (pa_cons (pe_tupleOf (by rfl) T.nTuple (pe_slice sl_list (pv 3) po_none (po_some (pv 1)))) (pa_cons (pe_tupleOf (by rfl) T.nTuple (pe_slice sl_list (pv 3) (po_some (pv 1)) po_none)) pa_nil)))
          (pg_tup (n := 2) rfl (pgs_cons (pg_name (i := 4) nd rfl (Or.inl rfl)) (pgs_cons (pg_name (i := 5) nd rfl (Or.inl rfl)) pgs_nil))))
      (pss_cons (ps_fld (pv 0) (pe_callB call_len_seq (by rfl) T.nLen (by decide +kernel) (pa_cons (pv 4) pa_nil)) rfl)
      (pss_cons (ps_fld (pv 0) (pe_callB call_len_seq (by rfl) T.nLen (by decide +kernel) (pa_cons (pv 5) pa_nil)) rfl)
      (pss_one (ps_fld (pv 0) (pe_tup (StX.pa_star (pv 4) (StX.pa_star (pv 5) pa_nil))) rfl))))))), ?_⟩
    have e1 : okInt (.int (b : Int)) 0 1000 = true := by simp [okInt]; omega
    have e2 : okInt (.int (q : Int)) 1 1000 = true := by simp [okInt]; omega
    refine ⟨_, rfl, _, _, _, rfl, Kd.int _, _, rfl, ?_⟩
    rw [e1]
    refine iteF ⟨_, rfl, _, _, _, rfl, Kd.int _, _, rfl, ?_⟩
    rw [e2]
    refine iteF ⟨_, rfl, _, rfl, _, rfl, _, _, rfl, rfl, a, row, ?_, ha, by omega, h0, hw, fun H1 s1 => ⟨_, rfl, ?_⟩⟩
    · rw [hl]
      show [V.ref a, V.int ((b : Int) + q)] = [V.ref a, V.int ((b + q : Nat) : Int)]
      rw [show ((b + q : Nat) : Int) = (b : Int) + q by omega]
    refine iteF ?_
    have ha1 := s1 _ _ ha
    refine ⟨_, rfl, _, rfl, _, rfl, ?_⟩
    dsimp only [tNoPart]
    refine ⟨a, _, rfl, SqL.of ha1, fun p1 hp1 => .inl ⟨p1, _, rfl, SqL.of upd_same, fun p2 hp2 => ?_⟩⟩
    rw [cut_to (by omega)]
    have s2 : Same H (upd (upd H1 p1 (.lst ((row.take b).map V.int))) p2 (.tup ((row.take b).map V.int))) := s1.trans (same_upd (same_upd (fun _ _ e => e) hp1) (by rw [cut_to (by omega)] at hp2; exact hp2))
    have e2 : (upd (upd H1 p1 (.lst ((row.take b).map V.int))) p2 (.tup ((row.take b).map V.int))) p2 = some (.tup ((row.take b).map V.int)) := upd_same
    generalize upd (upd H1 p1 (.lst ((row.take b).map V.int))) p2 (.tup ((row.take b).map V.int)) = H2 at s2 e2
    refine ⟨_, rfl, _, rfl, _, rfl, ?_⟩
    dsimp only [tNoPart]
    refine ⟨a, _, rfl, SqL.of (s2 _ _ ha), fun p3 hp3 => .inl ⟨p3, _, rfl, SqL.of upd_same, fun p4 hp4 => ?_⟩⟩
    rw [cut_from (by omega)] at hp4 ⊢
    have s3 : Same H2 (upd (upd H2 p3 (.lst ((row.drop b).map V.int))) p4 (.tup ((row.drop b).map V.int))) := same_upd (same_upd (fun _ _ e => e) hp3) hp4
    have e3 : (upd (upd H2 p3 (.lst ((row.drop b).map V.int))) p4 (.tup ((row.drop b).map V.int))) p4 = some (.tup ((row.drop b).map V.int)) := upd_same
    generalize upd (upd H2 p3 (.lst ((row.drop b).map V.int))) p4 (.tup ((row.drop b).map V.int)) = H3 at s3 e3
    have ld : (row.drop b).length = q := by rw [List.length_drop]; omega
    have lt : (row.take b).length = b := by rw [List.length_take]; omega
    refine ⟨p2, p4, _, _, rfl, s3 _ _ e2, e3, by omega, by omega, by omega, fun p a' c' A' g' H4 s4 hp ha' hc' g0 gm am hf => ?_⟩
    refine ⟨p, _, rfl, SqT.of hp, rfl, _, _, rfl, _, _, rfl, rfl, ?_⟩
    have sH4 : Same H H4 := s2.trans (s3.trans s4)
    have hx4 := sH4 _ _ hx
    have nax : a' ≠ x := ne_of ha' hx4 (by intro z; cases z)
    have ncx : c' ≠ x := ne_of hc' hx4 (by intro z; cases z)
    refine ⟨_, rfl, a', _, rfl, .inr (SqT.of ha'), _, rfl, x, _, dx, _, rfl, hx4, T.clTable, T.naBegin, (by show 0 < 1000; decide), ?_⟩
    refine ⟨_, rfl, c', _, rfl, .inr (SqT.of ((upd_ne ncx).trans hc')), _, rfl, x, _, dx, _, rfl, upd_same, T.clTable, T.naPeriod, (by show 1 < 1000; decide), ?_⟩
    refine ⟨_, rfl, a', A'.map V.int, rfl, .inl (SqT.of ((upd_ne nax).trans ((upd_ne nax).trans ha'))), _, rfl, c', g'.map V.int, rfl, .inl (SqT.of ((upd_ne ncx).trans ((upd_ne ncx).trans hc'))), ?_, fun p5 hp5 => ?_⟩
    · show (A'.map V.int ++ (g'.map V.int ++ [])).length ≤ sizeLine
      rw [sizeLine_eq]
      simp
      omega
    have n5 : p5 ≠ x := fun q => by rw [q, upd_same] at hp5; cases hp5
    refine ⟨_, rfl, x, _, dx, _, rfl, Eq.trans (upd_ne n5.symm) upd_same, T.clTable, T.naNumbers, ?_, ?_⟩
    · rw [putF_new (by rfl)]
      show 2 < 1000
      decide
    refine k _ A'.length g'.length ⟨⟨dx, p5, A' ++ g', ?_, ?_, ?_, fun n => ?_⟩, g0, by omega⟩ fun c o hc e => ?_
    · rw [upd_same]
      simp only [List.length_map]
      have p1 : putF ("begin" : Str) (.int (A'.length : Nat)) [] = [(("begin" : Str), V.int (A'.length : Nat))] := rfl
      have p2 : putF ("period" : Str) (.int (g'.length : Nat)) [(("begin" : Str), V.int (A'.length : Nat))] = [(("begin" : Str), V.int (A'.length : Nat)), ("period", .int (g'.length : Nat))] := putF_new (by rfl)
      have p3 : putF ("numbers" : Str) (.ref p5) [(("begin" : Str), V.int (A'.length : Nat)), ("period", .int (g'.length : Nat))] = fTab (.int (A'.length : Nat)) (.int (g'.length : Nat)) (.ref p5) := putF_new (by rfl)
      rw [p1, p2, p3]
      all_goals rfl
    · rw [upd_ne n5, upd_same, List.map_append, List.append_nil]
    · rw [List.length_append]
    · rw [tw_tf hl q0, ← hf n, tf_tw A' g' g0]
    · have n5c : c ≠ p5 := fun q => by
        have z := sH4 _ _ e
        rw [q] at z hc
        rw [upd_ne hc, upd_ne hc] at hp5
        rw [z] at hp5
        cases hp5
      rw [upd_ne hc, upd_ne n5c, upd_ne hc, upd_ne hc]
      exact sH4 _ _ e
end
end FT
/-! The walk: the law's draws. -/
namespace FT
open PySem PySem.Spec PyProof.Rows L2 FTM FTG
open PySem.W (Frag)
/-- the state of the draws at p: at most T are behind -/
structure Pen (H : Hp) (p c : Addr) (T : Nat) : Prop where
  ex : ∃ (cells : List Int) (t g : Nat), H p = some (.lst [.ref c, .int t, .int g]) ∧ H c = some (.lst (cells.map V.int)) ∧ cells.length ≤ 63 ∧ t ≤ T
theorem Pen.ne {H : Hp} {p c : Addr} {t g : Int} {cells : List Int} {c0 : Addr} (h1 : H p = some (.lst [.ref c0, .int t, .int g])) (h2 : H c = some (.lst (cells.map V.int))) : c ≠ p := fun e => by
  rw [e, h1] at h2
  cases cells with
  | nil => cases h2
  | cons a r =>
    have := congrArg (fun o => match o with | some (HO.lst (x :: _)) => some x | _ => none) h2
    cases this
theorem Pen.same {H H' : Hp} {p c : Addr} {T : Nat} (P : Pen H p c T) (s : Same H H') : Pen H' p c T :=
  let ⟨cells, t, g, h1, h2, h3, h4⟩ := P.ex; ⟨cells, t, g, s _ _ h1, s _ _ h2, h3, h4⟩
theorem Pen.mono {H : Hp} {p c : Addr} {T T' : Nat} (P : Pen H p c T) (h : T ≤ T') : Pen H p c T' :=
  let ⟨cells, t, g, h1, h2, h3, h4⟩ := P.ex; ⟨cells, t, g, h1, h2, h3, Nat.le_trans h4 h⟩
theorem SmB.trans {x : Addr} {H H1 H2 : Hp} (a : SmB x H H1) (b : SmB x H1 H2) : SmB x H H2 := fun c o h e => b c o h (a c o h e)
theorem smB_of {x : Addr} {H H1 : Hp} (s : Same H H1) : SmB x H H1 := fun c o _ e => s c o e
def spPen (K : Frag) : Sp := fun vs H Q _ => ∃ (a : Addr) (ns : List Int), vs = [.ref a] ∧ SqL K H a (ns.map V.int) ∧ ∀ p c H', Same H H' → Pen H' p c 0 → H p = none → Q (.ref p) H'
def spDraw : Sp := fun vs H Q _ => ∃ (p c : Addr) (m T : Nat), vs = [.ref p, .int m] ∧ 0 < m ∧ m ≤ 1000 ∧ Pen H p c T ∧ T ≤ 100000 ∧ ∀ (d : Nat) H', d < m → SmB p H H' → Pen H' p c (T + 1) → Q (.int d) H'
def spPick : Sp := fun vs H Q _ => ∃ (p c a : Addr) (xs : List V) (T : Nat), vs = [.ref p, .ref a] ∧ H a = some (.lst xs) ∧ a ≠ p ∧ 0 < xs.length ∧ xs.length ≤ 1000 ∧ Pen H p c T ∧ T ≤ 100000 ∧ ∀ (i : Nat) v H', xs[i]? = some v → SmB p H H' → Pen H' p c (T + 1) → Q v H'
theorem shapedL_ints (ns : List Int) : SeqAt.shaped (.list (ns.map PyData.int)) = true := by
  unfold SeqAt.shaped
  have h1 : (PyData.list (ns.map PyData.int)).canLay0 = true := canAll_ints ns
  have h2 := depAll_ints ns
  rw [h1, Bool.true_and]
  refine decide_eq_true ?_
  simp only [PyData.depth]
  omega
section
variable {P : Program} {w : World} {K : Frag} {mg : Str → Option Value} {base : Heap}
theorem ok_pen (T : Txt P K mg) : FnR P w K mg base CX0 1 (gA K "_law_pen") (spPen K) := by
  refine okR0 T.fPen scPen (fun _ _ _ _ _ _ us hl => match us, hl with | [_], _ => rfl) (fun vs H Q E h => ?_) (fun cdv A outer s H vs Q E hr h => ?_)
  · obtain ⟨_, _, rfl, _⟩ := h
    rfl
  · obtain ⟨a, ns, rfl, ha, k⟩ := h
    refine ⟨_, pss_one (ps_ret (pe_lst (pa_cons (pe_callTy call_list_of (by rfl) T.nList (by decide +kernel) (pa_cons (pe_slice sl_list (pv 0) po_none (po_some pe_int)) pa_nil)) (pa_cons pe_int (pa_cons pe_int pa_nil))))), ?_⟩
    refine ⟨_, rfl, _, rfl, ?_⟩
    dsimp only [tNoPart]
    refine ⟨a, _, rfl, ha, fun p1 hp1 => ⟨p1, _, rfl, .inl (SqL.of upd_same), fun p2 hp2 => ⟨(by show 3 ≤ sizeLine; decide), fun p3 hp3 => ?_⟩⟩⟩
    have e : cutV (ns.map V.int) none (some 63) = (ns.take 63).map V.int := by
      unfold cutV HT.sIx
      simp only [List.length_map]
      rw [if_neg (by decide), List.drop_zero, List.map_take]
      rw [List.take_eq_take_iff]
      simp
    rw [e] at hp2 hp3 ⊢
    have s1 : Same H (upd H p1 (.lst ((ns.take 63).map V.int))) := same_upd (fun _ _ e => e) hp1
    have s2 : Same H (upd (upd H p1 (.lst ((ns.take 63).map V.int))) p2 (.lst ((ns.take 63).map V.int))) := same_upd s1 hp2
    refine k p3 p2 _ (same_upd s2 hp3) ⟨ns.take 63, 0, 0, upd_same, ?_, by rw [List.length_take]; omega, Nat.le_refl _⟩ (s2.free hp3)
    rw [upd_ne (ne_of_none upd_same hp3), upd_same]
theorem ok_draw (T : Txt P K mg) : FnR P w K mg base CX0 1 (gA K "_law_draw") spDraw := by
  refine okR0 T.fDraw scDraw (fun _ _ _ _ _ _ us hl => match us, hl with | [_, _], _ => rfl) (fun vs H Q E h => ?_) (fun cdv A outer s H vs Q E hr h => ?_)
  · obtain ⟨_, _, _, _, rfl, _⟩ := h
    rfl
  · obtain ⟨p, c, m, T0, rfl, m0, m9, PN, hT, k⟩ := h
    obtain ⟨cells, t, g, hp, hc, hl, ht⟩ := PN.ex
    have ncp : c ≠ p := Pen.ne hp hc
    have nd := scDraw.nd
    have i1 := fun {X : Cx} => @call_int1 X
    refine ⟨_, pss_cons (ps_if (pt_cmpR op_gt (pe_ix ix_list (pv 0) pe_int (fun _ _ => rfl)) pe_int (nomark _))
        (pss_cons (ps_set (i := 2) nd rfl (Or.inl rfl) (pe_op op_mod (pe_callTy call_int1 (by rfl) T.nInt (by decide +kernel) (pa_cons (pe_ix ix_list (pv 0) pe_int (fun _ _ => rfl)) pa_nil)) (pv 1)))
          (pss_cons (ps_asg (pe_op op_fdiv (pe_callTy call_int1 (by rfl) T.nInt (by decide +kernel) (pa_cons (pe_ix ix_list (pv 0) pe_int (fun _ _ => rfl)) pa_nil)) (pv 1)) (pg_sub (pv 0) pe_int set_list))
            (pss_one (ps_ret (pv 2))))) pss_nil)
      (pss_cons (ps_set (i := 3) nd rfl (Or.inl rfl) (pe_ix ix_list (pv 0) pe_int (fun _ _ => rfl)))
      (pss_cons (ps_asg (pe_op op_add (pv 3) pe_int) (pg_sub (pv 0) pe_int set_list))
      (pss_cons (ps_set (i := 4) nd rfl (Or.inl rfl) (pe_op op_add (pe_op op_mul pe_int (pv 3)) pe_int))
      (pss_cons (ps_if (pt_cmpR (op_neD hr.units) (pe_ix ix_list (pv 0) pe_int (fun _ _ => rfl)) (pe_lst pa_nil) (nomark _))
          (pss_one (ps_set (i := 4) nd rfl (Or.inl rfl) (pe_ix ix_list (pe_ix ix_list (pv 0) pe_int (fun _ _ => rfl)) (pe_op op_mod (pe_callTy call_int1 (by rfl) T.nInt (by decide +kernel) (pa_cons (pv 3) pa_nil)) (pe_callB call_len_seq (by rfl) T.nLen (by decide +kernel) (pa_cons (pe_ix ix_list (pv 0) pe_int (fun _ _ => rfl)) pa_nil))) (fun _ _ => rfl)))) pss_nil)
      (pss_cons (ps_if (PW.pt (pw_and (pt_cmpR op_lt (pv 3) (pe_callB call_len_seq (by rfl) T.nLen (by decide +kernel) (pa_cons (pe_ix ix_list (pv 0) pe_int (fun _ _ => rfl)) pa_nil)) (nomark _)) (pw_and1 (pt_cmpR op_ge (pe_callB call_abs (by rfl) T.nAbs (by decide +kernel) (pa_cons (pv 4) pa_nil)) (pe_op op_pow pe_int pe_int) (nomark _)))))
          (pss_cons (ps_set (i := 5) nd rfl (Or.inl rfl) (pe_op op_add (pe_op op_mul pe_int (pe_op op_sub (pe_callB call_abs (by rfl) T.nAbs (by decide +kernel) (pa_cons (pv 4) pa_nil)) (pe_op op_pow pe_int pe_int))) (pe_callTy call_int1 (by rfl) T.nInt (by decide +kernel) (pa_cons (pe_cmpR op_lt (pv 4) pe_int (nomark _)) pa_nil))))
          (pss_cons (ps_asg (pe_op op_fdiv (pe_callTy call_int1 (by rfl) T.nInt (by decide +kernel) (pa_cons (pv 5) pa_nil)) (pv 1)) (pg_sub (pv 0) pe_int set_list))
          (pss_one (ps_ret (pe_op op_mod (pe_callTy call_int1 (by rfl) T.nInt (by decide +kernel) (pa_cons (pv 5) pa_nil)) (pv 1)))))) pss_nil)
      (pss_cons (ps_set (i := 6) nd rfl (Or.inl rfl) (pe_op op_mod (pe_callTy call_int1 (by rfl) T.nInt (by decide +kernel) (pa_cons (pe_op op_pow (pe_op op_add (pe_op op_add (pe_op op_mod (pe_callTy call_int1 (by rfl) T.nInt (by decide +kernel) (pa_cons (pv 4) pa_nil)) pe_int) (pe_op op_mul pe_int (pv 3))) pe_int) pe_int) pa_nil)) pe_int))
      (pss_cons (ps_set (i := 6) nd rfl (Or.inl rfl) (pe_op op_mod (pe_callTy call_int1 (by rfl) T.nInt (by decide +kernel) (pa_cons (pe_op op_pow (pe_op op_add (pe_op op_add (pe_op op_mul (pv 6) (pe_op op_add (pe_op op_mul pe_int (pv 3)) pe_int)) (pe_op op_mul (pe_op op_mul pe_int (pv 3)) (pv 3))) pe_int) pe_int) pa_nil)) pe_int))
      (pss_one (ps_ret (pe_op op_mod (pe_callTy call_int1 (by rfl) T.nInt (by decide +kernel) (pa_cons (pe_op op_fdiv (pv 6) pe_int) pa_nil)) (pv 1))))))))))), ?_⟩
    have m0' : (0 : Int) < (m : Int) := by omega
    have mB : (m : Int) < 1073741824 := by omega
    have last : ∀ (M : Int), 0 ≤ M → ∃ d : Nat, d < m ∧ M % (m : Int) = (d : Int) := fun M h => by
      have h1 := Int.emod_lt_of_pos M m0'
      have h2 := Int.emod_nonneg M (show (m : Int) ≠ 0 by omega)
      exact ⟨(M % m).toNat, by omega, by omega⟩
    have tB : t ≤ 100000 := by omega
    refine ⟨_, rfl, p, _, 2, _, rfl, rfl, SqL.of hp, rfl, _, _, rfl, rfl, _, rfl, ?_⟩
    by_cases hg : 0 < g
    · rw [decide_eq_true (show (0 : Int) < (g : Int) by omega)]
      refine iteT ⟨_, rfl, p, _, 2, _, rfl, rfl, SqL.of hp, rfl, .inl ⟨_, rfl, _, rfl, _, _, rfl, rfl, m0', ?_⟩⟩
      refine ⟨_, rfl, p, _, 2, _, rfl, rfl, SqL.of hp, rfl, .inl ⟨_, rfl, _, rfl, _, _, rfl, rfl, ⟨m0', mB⟩, ?_⟩⟩
      refine ⟨_, rfl, p, _, 2, 2, rfl, rfl, hp, rfl, _, rfl, ?_⟩
      exact k (g % m) _ (Nat.mod_lt _ m0) (fun b o hb e => by rw [upd_ne hb]; exact e) ⟨cells, t, g / m, upd_same, (upd_ne ncp).trans hc, hl, by omega⟩
    rw [decide_eq_false (show ¬ (0 : Int) < (g : Int) by omega)]
    refine iteF ⟨_, rfl, p, _, 1, _, rfl, rfl, SqL.of hp, rfl, ?_⟩
    refine ⟨_, rfl, _, _, rfl, rfl, _, rfl, p, _, 1, 1, rfl, rfl, hp, rfl, ?_⟩
    have hp1 : upd H p (.lst ([V.ref c, V.int t, V.int g].set 1 (V.int ((t : Int) + 1)))) p = some (.lst [V.ref c, V.int ((t + 1 : Nat) : Int), V.int g]) := by
      rw [upd_same]
      rfl
    have hc1 : upd H p (.lst ([V.ref c, V.int t, V.int g].set 1 (V.int ((t : Int) + 1)))) c = some (.lst (cells.map V.int)) := (upd_ne ncp).trans hc
    have sB1 : SmB p H (upd H p (.lst ([V.ref c, V.int t, V.int g].set 1 (V.int ((t : Int) + 1))))) := fun b o hb e => by rw [upd_ne hb]; exact e
    dsimp only
    generalize upd H p (.lst ([V.ref c, V.int t, V.int g].set 1 (V.int ((t : Int) + 1)))) = H1 at hp1 hc1 sB1
    refine ⟨_, rfl, _, _, rfl, rfl, .inl ⟨by decide, by decide⟩, _, _, rfl, rfl, ?_⟩
    refine ⟨_, rfl, p, _, 0, _, rfl, rfl, SqL.of hp1, rfl, Nat.zero_le _, fun q hq => ?_⟩
    have sQ : Same H1 (upd H1 q (.lst [])) := same_upd (fun _ _ e => e) hq
    have hp2 := sQ _ _ hp1
    have hc2 := sQ _ _ hc1
    refine ⟨_, _, .lst (SqL.of hc2) (dpAll_ints cells), .lst (SqL.of upd_same) .nil, shapedL_ints cells, shapedL_ints [], _, rfl, ?_⟩
    have sB2 : SmB p H (upd H1 q (.lst [])) := sB1.trans (smB_of sQ)
    dsimp only
    generalize upd H1 q (.lst []) = H2 at hp2 hc2 sB2
    by_cases hcell : cells = []
    · rw [show PyData.eqv (.list (cells.map PyData.int)) (.list []) = true by subst hcell; rfl]
      refine iteF ?_
      obtain ⟨cv, hcv⟩ : ∃ cv : Int, cv = 43943 * (t : Int) + 811 := ⟨_, rfl⟩
      rw [← hcv]
      refine ⟨_, rfl, _, rfl, p, _, 0, _, rfl, rfl, SqL.of hp2, rfl, c, _, rfl, .inl (SqL.of hc2), _, _, rfl, rfl, _, rfl, ?_⟩
      by_cases c1 : (t : Int) < (((cells.map V.int).length : Nat) : Int)
      · rw [decide_eq_true c1]
        refine iteT ⟨_, rfl, cv, rfl, _, _, rfl, rfl, ⟨by decide, by decide, by decide⟩, _, _, rfl, rfl, _, rfl, ?_⟩
        by_cases c2 : (10 : Int) ^ Int.toNat 18 ≤ (if cv < 0 then -cv else cv)
        · rw [decide_eq_true c2]
          have e18 : (10 : Int) ^ Int.toNat 18 = 1000000000000000000 := by decide
          refine iteT ⟨_, rfl, cv, rfl, _, _, rfl, rfl, ⟨by decide, by decide, by decide⟩, _, _, rfl, rfl, _, _, rfl, rfl, .inl ⟨by decide, by decide⟩, _, rfl, _, _, rfl, rfl, .inr ⟨_, rfl, _, _, rfl, rfl, ?_⟩⟩
          dsimp only
          have G0 : (0 : Int) ≤ 2 * ((if cv < 0 then -cv else cv) - 10 ^ Int.toNat 18) + (if decide (cv < 0) = true then 1 else 0) := by
            rw [e18] at c2 ⊢
            split <;> omega
          generalize 2 * ((if cv < 0 then -cv else cv) - 10 ^ Int.toNat 18) + (if decide (cv < 0) = true then 1 else 0) = G at G0
          obtain ⟨d, hd, ed⟩ := last G G0
          refine ⟨_, rfl, .inl ⟨_, rfl, _, rfl, _, _, rfl, rfl, ⟨m0', mB⟩, _, rfl, p, _, 2, 2, rfl, rfl, hp2, rfl, ?_⟩⟩
          refine ⟨_, rfl, .inl ⟨_, rfl, _, rfl, _, _, rfl, rfl, m0', ?_⟩⟩
          dsimp only
          rw [ed]
          refine k d _ hd (sB2.trans fun b o hb e => by rw [upd_ne hb]; exact e) ⟨cells, t + 1, (G / m).toNat, ?_, (upd_ne ncp).trans hc2, hl, by omega⟩
          rw [upd_same]
          show some (HO.lst [V.ref c, V.int ((t + 1 : Nat) : Int), V.int (G / (m : Int))]) = _
          rw [show (((G / (m : Int)).toNat : Nat) : Int) = G / (m : Int) from Int.toNat_of_nonneg (Int.ediv_nonneg G0 (by omega))]
        · rw [decide_eq_false c2]
          refine iteF ?_
          -- mixed
          have x1 := Int.emod_lt_of_pos cv (show (0 : Int) < 2147483549 by decide)
          have x2 := Int.emod_nonneg cv (show (2147483549 : Int) ≠ 0 by decide)
          refine ⟨_, rfl, .inl ⟨_, rfl, _, _, rfl, rfl, (by show (0 : Int) < 2147483549; decide), _, rfl, _, _, rfl, rfl, .inl ⟨by decide, by decide⟩, _, _, rfl, rfl, _, _, rfl, rfl, _, _, rfl, rfl, ⟨by decide, by decide, ?_⟩, .inl ⟨_, rfl, _, _, rfl, rfl, (by show (0 : Int) < 2147483629; decide), ?_⟩⟩⟩
          · show ((cv % 2147483549 + 32921 * (t : Int)) + 361).natAbs < 2 ^ 64
            omega
          dsimp only
          have y1 := Int.emod_lt_of_pos ((cv % 2147483549 + 32921 * (t : Int) + 361) ^ Int.toNat 5) (show (0 : Int) < 2147483629 by decide)
          have y2 := Int.emod_nonneg ((cv % 2147483549 + 32921 * (t : Int) + 361) ^ Int.toNat 5) (show (2147483629 : Int) ≠ 0 by decide)
          generalize (cv % 2147483549 + 32921 * (t : Int) + 361) ^ Int.toNat 5 % 2147483629 = M1 at y1 y2
          refine ⟨_, rfl, _, rfl, _, _, rfl, rfl, .inl ⟨by decide, by decide⟩, _, _, rfl, rfl, _, _, rfl, rfl, .inl ⟨by omega, by omega⟩, _, rfl, _, _, rfl, rfl, .inl ⟨by decide, by decide⟩, _, rfl, _, _, rfl, rfl, .inl ⟨by omega, by omega⟩, _, _, rfl, rfl, _, _, rfl, rfl, _, _, rfl, rfl, ⟨by decide, by decide, ?_⟩, .inl ⟨_, rfl, _, _, rfl, rfl, (by show (0 : Int) < 2147483587; decide), ?_⟩⟩
          · show (M1 * (2 * (t : Int) + 121) + 21601 * (t : Int) * (t : Int) + 121).natAbs < 2 ^ 64
            have z1 : M1 * (2 * (t : Int) + 121) ≤ 2147483629 * 200121 := Int.mul_le_mul (by omega) (by omega) (by omega) (by decide)
            have z2 : 21601 * (t : Int) * (t : Int) ≤ 2160100000 * 100000 := Int.mul_le_mul (by omega) (by omega) (by omega) (by decide)
            have z3 : 0 ≤ M1 * (2 * (t : Int) + 121) := Int.mul_nonneg y2 (by omega)
            have z4 : 0 ≤ 21601 * (t : Int) * (t : Int) := Int.mul_nonneg (by omega) (by omega)
            omega
          dsimp only
          have w2 := Int.emod_nonneg ((M1 * (2 * (t : Int) + 121) + 21601 * (t : Int) * (t : Int) + 121) ^ Int.toNat 3) (show (2147483587 : Int) ≠ 0 by decide)
          generalize (M1 * (2 * (t : Int) + 121) + 21601 * (t : Int) * (t : Int) + 121) ^ Int.toNat 3 % 2147483587 = M2 at w2
          obtain ⟨d, hd, ed⟩ := last (M2 / 32) (Int.ediv_nonneg w2 (by decide))
          refine ⟨_, rfl, _, _, rfl, rfl, ⟨by decide, by decide⟩, .inl ⟨_, rfl, _, rfl, _, _, rfl, rfl, m0', ?_⟩⟩
          dsimp only
          rw [ed]
          exact k d H2 hd sB2 ⟨cells, t + 1, g, hp2, hc2, hl, by omega⟩
      · rw [decide_eq_false c1]
        refine iteF ?_
        -- mixed
        have x1 := Int.emod_lt_of_pos cv (show (0 : Int) < 2147483549 by decide)
        have x2 := Int.emod_nonneg cv (show (2147483549 : Int) ≠ 0 by decide)
        refine ⟨_, rfl, .inl ⟨_, rfl, _, _, rfl, rfl, (by show (0 : Int) < 2147483549; decide), _, rfl, _, _, rfl, rfl, .inl ⟨by decide, by decide⟩, _, _, rfl, rfl, _, _, rfl, rfl, _, _, rfl, rfl, ⟨by decide, by decide, ?_⟩, .inl ⟨_, rfl, _, _, rfl, rfl, (by show (0 : Int) < 2147483629; decide), ?_⟩⟩⟩
        · show ((cv % 2147483549 + 32921 * (t : Int)) + 361).natAbs < 2 ^ 64
          omega
        dsimp only
        have y1 := Int.emod_lt_of_pos ((cv % 2147483549 + 32921 * (t : Int) + 361) ^ Int.toNat 5) (show (0 : Int) < 2147483629 by decide)
        have y2 := Int.emod_nonneg ((cv % 2147483549 + 32921 * (t : Int) + 361) ^ Int.toNat 5) (show (2147483629 : Int) ≠ 0 by decide)
        generalize (cv % 2147483549 + 32921 * (t : Int) + 361) ^ Int.toNat 5 % 2147483629 = M1 at y1 y2
        refine ⟨_, rfl, _, rfl, _, _, rfl, rfl, .inl ⟨by decide, by decide⟩, _, _, rfl, rfl, _, _, rfl, rfl, .inl ⟨by omega, by omega⟩, _, rfl, _, _, rfl, rfl, .inl ⟨by decide, by decide⟩, _, rfl, _, _, rfl, rfl, .inl ⟨by omega, by omega⟩, _, _, rfl, rfl, _, _, rfl, rfl, _, _, rfl, rfl, ⟨by decide, by decide, ?_⟩, .inl ⟨_, rfl, _, _, rfl, rfl, (by show (0 : Int) < 2147483587; decide), ?_⟩⟩
        · show (M1 * (2 * (t : Int) + 121) + 21601 * (t : Int) * (t : Int) + 121).natAbs < 2 ^ 64
          have z1 : M1 * (2 * (t : Int) + 121) ≤ 2147483629 * 200121 := Int.mul_le_mul (by omega) (by omega) (by omega) (by decide)
          have z2 : 21601 * (t : Int) * (t : Int) ≤ 2160100000 * 100000 := Int.mul_le_mul (by omega) (by omega) (by omega) (by decide)
          have z3 : 0 ≤ M1 * (2 * (t : Int) + 121) := Int.mul_nonneg y2 (by omega)
          have z4 : 0 ≤ 21601 * (t : Int) * (t : Int) := Int.mul_nonneg (by omega) (by omega)
          omega
        dsimp only
        have w2 := Int.emod_nonneg ((M1 * (2 * (t : Int) + 121) + 21601 * (t : Int) * (t : Int) + 121) ^ Int.toNat 3) (show (2147483587 : Int) ≠ 0 by decide)
        generalize (M1 * (2 * (t : Int) + 121) + 21601 * (t : Int) * (t : Int) + 121) ^ Int.toNat 3 % 2147483587 = M2 at w2
        obtain ⟨d, hd, ed⟩ := last (M2 / 32) (Int.ediv_nonneg w2 (by decide))
        refine ⟨_, rfl, _, _, rfl, rfl, ⟨by decide, by decide⟩, .inl ⟨_, rfl, _, rfl, _, _, rfl, rfl, m0', ?_⟩⟩
        dsimp only
        rw [ed]
        exact k d H2 hd sB2 ⟨cells, t + 1, g, hp2, hc2, hl, by omega⟩
    · rw [show PyData.eqv (.list (cells.map PyData.int)) (.list []) = false by cases cells with | nil => exact absurd rfl hcell | cons a r => rfl]
      have lc : 0 < cells.length := List.length_pos_iff.mpr hcell
      refine iteT ⟨_, rfl, p, _, 0, _, rfl, rfl, SqL.of hp2, rfl, _, rfl, .inl ⟨_, rfl, _, rfl, p, _, 0, _, rfl, rfl, SqL.of hp2, rfl, c, _, rfl, .inl (SqL.of hc2), _, _, rfl, rfl, ?_, ?_⟩⟩
      · rw [List.length_map]; omega
      have ei : (t : Int) % (((cells.map V.int).length : Nat) : Int) = ((t % cells.length : Nat) : Int) := by rw [List.length_map, imod]
      refine ⟨c, _, _, _, rfl, congrArg V.int ei, SqL.of hc2, atRow (Nat.mod_lt _ lc), ?_⟩
      obtain ⟨cv, hcv⟩ : ∃ cv : Int, cv = cells.getD (t % cells.length) 0 := ⟨_, rfl⟩
      rw [← hcv]
      refine ⟨_, rfl, _, rfl, p, _, 0, _, rfl, rfl, SqL.of hp2, rfl, c, _, rfl, .inl (SqL.of hc2), _, _, rfl, rfl, _, rfl, ?_⟩
      by_cases c1 : (t : Int) < (((cells.map V.int).length : Nat) : Int)
      · rw [decide_eq_true c1]
        refine iteT ⟨_, rfl, cv, rfl, _, _, rfl, rfl, ⟨by decide, by decide, by decide⟩, _, _, rfl, rfl, _, rfl, ?_⟩
        by_cases c2 : (10 : Int) ^ Int.toNat 18 ≤ (if cv < 0 then -cv else cv)
        · rw [decide_eq_true c2]
          have e18 : (10 : Int) ^ Int.toNat 18 = 1000000000000000000 := by decide
          refine iteT ⟨_, rfl, cv, rfl, _, _, rfl, rfl, ⟨by decide, by decide, by decide⟩, _, _, rfl, rfl, _, _, rfl, rfl, .inl ⟨by decide, by decide⟩, _, rfl, _, _, rfl, rfl, .inr ⟨_, rfl, _, _, rfl, rfl, ?_⟩⟩
          dsimp only
          have G0 : (0 : Int) ≤ 2 * ((if cv < 0 then -cv else cv) - 10 ^ Int.toNat 18) + (if decide (cv < 0) = true then 1 else 0) := by
            rw [e18] at c2 ⊢
            split <;> omega
          generalize 2 * ((if cv < 0 then -cv else cv) - 10 ^ Int.toNat 18) + (if decide (cv < 0) = true then 1 else 0) = G at G0
          obtain ⟨d, hd, ed⟩ := last G G0
          refine ⟨_, rfl, .inl ⟨_, rfl, _, rfl, _, _, rfl, rfl, ⟨m0', mB⟩, _, rfl, p, _, 2, 2, rfl, rfl, hp2, rfl, ?_⟩⟩
          refine ⟨_, rfl, .inl ⟨_, rfl, _, rfl, _, _, rfl, rfl, m0', ?_⟩⟩
          dsimp only
          rw [ed]
          refine k d _ hd (sB2.trans fun b o hb e => by rw [upd_ne hb]; exact e) ⟨cells, t + 1, (G / m).toNat, ?_, (upd_ne ncp).trans hc2, hl, by omega⟩
          rw [upd_same]
          show some (HO.lst [V.ref c, V.int ((t + 1 : Nat) : Int), V.int (G / (m : Int))]) = _
          rw [show (((G / (m : Int)).toNat : Nat) : Int) = G / (m : Int) from Int.toNat_of_nonneg (Int.ediv_nonneg G0 (by omega))]
        · rw [decide_eq_false c2]
          refine iteF ?_
          -- mixed
          have x1 := Int.emod_lt_of_pos cv (show (0 : Int) < 2147483549 by decide)
          have x2 := Int.emod_nonneg cv (show (2147483549 : Int) ≠ 0 by decide)
          refine ⟨_, rfl, .inl ⟨_, rfl, _, _, rfl, rfl, (by show (0 : Int) < 2147483549; decide), _, rfl, _, _, rfl, rfl, .inl ⟨by decide, by decide⟩, _, _, rfl, rfl, _, _, rfl, rfl, _, _, rfl, rfl, ⟨by decide, by decide, ?_⟩, .inl ⟨_, rfl, _, _, rfl, rfl, (by show (0 : Int) < 2147483629; decide), ?_⟩⟩⟩
          · show ((cv % 2147483549 + 32921 * (t : Int)) + 361).natAbs < 2 ^ 64
            omega
          dsimp only
          have y1 := Int.emod_lt_of_pos ((cv % 2147483549 + 32921 * (t : Int) + 361) ^ Int.toNat 5) (show (0 : Int) < 2147483629 by decide)
          have y2 := Int.emod_nonneg ((cv % 2147483549 + 32921 * (t : Int) + 361) ^ Int.toNat 5) (show (2147483629 : Int) ≠ 0 by decide)
          generalize (cv % 2147483549 + 32921 * (t : Int) + 361) ^ Int.toNat 5 % 2147483629 = M1 at y1 y2
          refine ⟨_, rfl, _, rfl, _, _, rfl, rfl, .inl ⟨by decide, by decide⟩, _, _, rfl, rfl, _, _, rfl, rfl, .inl ⟨by omega, by omega⟩, _, rfl, _, _, rfl, rfl, .inl ⟨by decide, by decide⟩, _, rfl, _, _, rfl, rfl, .inl ⟨by omega, by omega⟩, _, _, rfl, rfl, _, _, rfl, rfl, _, _, rfl, rfl, ⟨by decide, by decide, ?_⟩, .inl ⟨_, rfl, _, _, rfl, rfl, (by show (0 : Int) < 2147483587; decide), ?_⟩⟩
          · show (M1 * (2 * (t : Int) + 121) + 21601 * (t : Int) * (t : Int) + 121).natAbs < 2 ^ 64
            have z1 : M1 * (2 * (t : Int) + 121) ≤ 2147483629 * 200121 := Int.mul_le_mul (by omega) (by omega) (by omega) (by decide)
            have z2 : 21601 * (t : Int) * (t : Int) ≤ 2160100000 * 100000 := Int.mul_le_mul (by omega) (by omega) (by omega) (by decide)
            have z3 : 0 ≤ M1 * (2 * (t : Int) + 121) := Int.mul_nonneg y2 (by omega)
            have z4 : 0 ≤ 21601 * (t : Int) * (t : Int) := Int.mul_nonneg (by omega) (by omega)
            omega
          dsimp only
          have w2 := Int.emod_nonneg ((M1 * (2 * (t : Int) + 121) + 21601 * (t : Int) * (t : Int) + 121) ^ Int.toNat 3) (show (2147483587 : Int) ≠ 0 by decide)
          generalize (M1 * (2 * (t : Int) + 121) + 21601 * (t : Int) * (t : Int) + 121) ^ Int.toNat 3 % 2147483587 = M2 at w2
          obtain ⟨d, hd, ed⟩ := last (M2 / 32) (Int.ediv_nonneg w2 (by decide))
          refine ⟨_, rfl, _, _, rfl, rfl, ⟨by decide, by decide⟩, .inl ⟨_, rfl, _, rfl, _, _, rfl, rfl, m0', ?_⟩⟩
          dsimp only
          rw [ed]
          exact k d H2 hd sB2 ⟨cells, t + 1, g, hp2, hc2, hl, by omega⟩
      · rw [decide_eq_false c1]
        refine iteF ?_
        -- mixed
        have x1 := Int.emod_lt_of_pos cv (show (0 : Int) < 2147483549 by decide)
        have x2 := Int.emod_nonneg cv (show (2147483549 : Int) ≠ 0 by decide)
        refine ⟨_, rfl, .inl ⟨_, rfl, _, _, rfl, rfl, (by show (0 : Int) < 2147483549; decide), _, rfl, _, _, rfl, rfl, .inl ⟨by decide, by decide⟩, _, _, rfl, rfl, _, _, rfl, rfl, _, _, rfl, rfl, ⟨by decide, by decide, ?_⟩, .inl ⟨_, rfl, _, _, rfl, rfl, (by show (0 : Int) < 2147483629; decide), ?_⟩⟩⟩
        · show ((cv % 2147483549 + 32921 * (t : Int)) + 361).natAbs < 2 ^ 64
          omega
        dsimp only
        have y1 := Int.emod_lt_of_pos ((cv % 2147483549 + 32921 * (t : Int) + 361) ^ Int.toNat 5) (show (0 : Int) < 2147483629 by decide)
        have y2 := Int.emod_nonneg ((cv % 2147483549 + 32921 * (t : Int) + 361) ^ Int.toNat 5) (show (2147483629 : Int) ≠ 0 by decide)
        generalize (cv % 2147483549 + 32921 * (t : Int) + 361) ^ Int.toNat 5 % 2147483629 = M1 at y1 y2
        refine ⟨_, rfl, _, rfl, _, _, rfl, rfl, .inl ⟨by decide, by decide⟩, _, _, rfl, rfl, _, _, rfl, rfl, .inl ⟨by omega, by omega⟩, _, rfl, _, _, rfl, rfl, .inl ⟨by decide, by decide⟩, _, rfl, _, _, rfl, rfl, .inl ⟨by omega, by omega⟩, _, _, rfl, rfl, _, _, rfl, rfl, _, _, rfl, rfl, ⟨by decide, by decide, ?_⟩, .inl ⟨_, rfl, _, _, rfl, rfl, (by show (0 : Int) < 2147483587; decide), ?_⟩⟩
        · show (M1 * (2 * (t : Int) + 121) + 21601 * (t : Int) * (t : Int) + 121).natAbs < 2 ^ 64
          have z1 : M1 * (2 * (t : Int) + 121) ≤ 2147483629 * 200121 := Int.mul_le_mul (by omega) (by omega) (by omega) (by decide)
          have z2 : 21601 * (t : Int) * (t : Int) ≤ 2160100000 * 100000 := Int.mul_le_mul (by omega) (by omega) (by omega) (by decide)
          have z3 : 0 ≤ M1 * (2 * (t : Int) + 121) := Int.mul_nonneg y2 (by omega)
          have z4 : 0 ≤ 21601 * (t : Int) * (t : Int) := Int.mul_nonneg (by omega) (by omega)
          omega
        dsimp only
        have w2 := Int.emod_nonneg ((M1 * (2 * (t : Int) + 121) + 21601 * (t : Int) * (t : Int) + 121) ^ Int.toNat 3) (show (2147483587 : Int) ≠ 0 by decide)
        generalize (M1 * (2 * (t : Int) + 121) + 21601 * (t : Int) * (t : Int) + 121) ^ Int.toNat 3 % 2147483587 = M2 at w2
        obtain ⟨d, hd, ed⟩ := last (M2 / 32) (Int.ediv_nonneg w2 (by decide))
        refine ⟨_, rfl, _, _, rfl, rfl, ⟨by decide, by decide⟩, .inl ⟨_, rfl, _, rfl, _, _, rfl, rfl, m0', ?_⟩⟩
        dsimp only
        rw [ed]
        exact k d H2 hd sB2 ⟨cells, t + 1, g, hp2, hc2, hl, by omega⟩
end
end FT
/-! The walk: the law's own look. -/
namespace FT
open PySem PySem.Spec PyProof.Rows L2 FTM FTG
open PySem.W (Frag)
theorem scLBarred : FnScope ["_law_told_here", "_law_part", "_law_heap", "_law_spot"] ["_law_told_here", "_law_part", "_law_heap"] (defScope sLBarred) := ⟨rfl, rfl, rfl, by decide +kernel, rfl, by decide +kernel, by decide +kernel⟩
theorem scDue : FnScope ["_law_told_here", "_law_part", "_law_end_here", "_law_found", "_law_heap"] ["_law_told_here", "_law_part"] (defScope sDue) := ⟨rfl, rfl, rfl, by decide +kernel, rfl, by decide +kernel, by decide +kernel⟩
/-- a told table -/
structure ToldAt (H : Hp) (a : Addr) (row : List Int) (b q : Nat) : Prop where
  ex : ∃ r, H a = some (.tup [.ref r, .int b, .int q]) ∧ H r = some (.lst (row.map V.int))
  len : row.length = b + q
  b7 : b ≤ 7
  q0 : 0 < q
  q8 : q ≤ 8
  z0 : row[0]? = some 0
  ok : ∀ z ∈ row, 0 ≤ z ∧ z ≤ 400
/-- a part: size, rest, modulus -/
structure PartAt (H : Hp) (a : Addr) (t r m : Nat) : Prop where
  at_ : H a = some (.tup [.str "fixed", .int t, .int r, .int m, .int 0])
  t1 : 1 ≤ t
  t12 : t ≤ 12
  rm : r < m
  m6 : m ≤ 6
def leftV (t r m n : Nat) : V := if n % m = r ∧ t ≤ n then .int ((n - t : Nat) : Int) else .non
def spLLeft : Sp := fun vs H Q _ => ∃ (a : Addr) (t r m n : Nat), vs = [.ref a, .int n] ∧ PartAt H a t r m ∧ Q (leftV t r m n) H
def spAt : Sp := fun vs H Q _ => ∃ (a : Addr) (row : List Int) (b q n : Nat), vs = [.ref a, .int n] ∧ ToldAt H a row b q ∧ Q (.int (tw row b q n)) H
def spEnd : Sp := fun vs H Q _ => ∃ (a p : Addr) (row : List Int) (b q t r m : Nat), vs = [.ref a, .ref p] ∧ ToldAt H a row b q ∧ PartAt H p t r m ∧ Q (.int ((b + t : Nat) : Int)) H
def spLBarred : Sp := fun vs H Q _ => ∃ (a p : Addr) (row : List Int) (b q t r m n : Nat), vs = [.ref a, .ref p, .int n] ∧ ToldAt H a row b q ∧ PartAt H p t r m ∧ Q (.bl (bB (tw row b q) t r m 0 n)) H
def spDue : Sp := fun vs H Q _ => ∃ (a p : Addr) (row : List Int) (b q t r m : Nat), vs = [.ref a, .ref p] ∧ ToldAt H a row b q ∧ PartAt H p t r m ∧ ∀ o, IsLeave (tw row b q) t r m o → Q (oV o) H
section
variable {P : Program} {w : World} {K : Frag} {mg : Str → Option Value} {base : Heap}
theorem ok_pick (T : Txt P K mg) : FnR P w K mg base CX0 2 (gA K "_law_pick") spPick := by
  refine okR0 T.fPick scPick (fun _ _ _ _ _ _ us hl => match us, hl with | [_, _], _ => rfl) (fun vs H Q E h => ?_) (fun cdv A outer s H vs Q E hr h => ?_)
  · obtain ⟨_, _, _, _, _, rfl, _⟩ := h
    rfl
  · obtain ⟨p, c, a, xs, T0, rfl, ha, nap, l0, l9, PN, hT, k⟩ := h
    refine ⟨_, pss_one (ps_ret (pe_ix ix_list (pv 1) (pe_callR (ok_draw T) hr T.gDraw (by rfl) pass0 (pa_cons (pv 0) (pa_cons (pe_callB call_len_seq (by rfl) T.nLen (by decide +kernel) (pa_cons (pv 1) pa_nil)) pa_nil))) (fun _ _ => rfl))), ?_⟩
    refine ⟨_, rfl, _, rfl, _, rfl, a, _, rfl, .inl (SqL.of ha), p, c, xs.length, T0, rfl, l0, l9, PN, hT, fun d H1 hd s1 PN1 => ?_⟩
    have ha1 := s1 a _ nap ha
    exact ⟨a, xs, _, xs[d], rfl, rfl, SqL.of ha1, atI_nat (List.getElem?_eq_getElem hd), k d _ H1 (List.getElem?_eq_getElem hd) s1 PN1⟩
theorem ok_lleft (T : Txt P K mg) : FnR P w K mg base CX0 1 (gA K "_law_left") spLLeft := by
  refine okR0 T.fLLeft scLLeft (fun _ _ _ _ _ _ us hl => match us, hl with | [_, _], _ => rfl) (fun vs H Q E h => ?_) (fun cdv A outer s H vs Q E hr h => ?_)
  · obtain ⟨_, _, _, _, _, rfl, _⟩ := h
    rfl
  · obtain ⟨a, t, r, m, n, rfl, U, k⟩ := h
    have ha := U.at_
    have rm := U.rm
    refine ⟨_, pss_cons (ps_if (pt_cmpR op_ne (pe_op op_mod (pe_callTy call_int1 (by rfl) T.nInt (by decide +kernel) (pa_cons (pv 1) pa_nil)) (pe_ix ix_tup (pv 0) pe_int (fun _ _ => rfl))) (pe_ix ix_tup (pv 0) pe_int (fun _ _ => rfl)) (nomark _)) (pss_one (ps_ret pe_non)) pss_nil)
      (pss_cons (ps_if (pt_cmpR op_eq (pe_ix ix_tup (pv 0) pe_int (fun _ _ => rfl)) pe_str (nomark _)) pss_never pss_nil)
      (pss_one (ps_ret (pe_ifExp (pt_cmpR op_ge (pv 1) (pe_op op_add (pe_ix ix_tup (pv 0) pe_int (fun _ _ => rfl)) (pe_ix ix_tup (pv 0) pe_int (fun _ _ => rfl))) (nomark _)) (pe_op op_sub (pv 1) (pe_ix ix_tup (pv 0) pe_int (fun _ _ => rfl))) pe_non)))), ?_⟩
    refine ⟨_, rfl, .inl ⟨_, rfl, _, rfl, a, _, 3, _, rfl, rfl, SqT.of ha, rfl, _, _, rfl, rfl, (by show (0 : Int) < m; omega), _, rfl, a, _, 2, _, rfl, rfl, SqT.of ha, rfl, rfl, _, rfl, ?_⟩⟩
    show if (!decide (V.int ((n : Int) % m) = V.int r)) = true then _ else _
    rw [dec_int, imod]
    by_cases c : n % m = r
    · rw [decide_eq_true (show ((n % m : Nat) : Int) = r by omega)]
      refine iteF ⟨_, rfl, a, _, 0, _, rfl, rfl, SqT.of ha, rfl, rfl, _, rfl, iteF ?_⟩
      refine ⟨_, rfl, _, rfl, a, _, 1, _, rfl, rfl, SqT.of ha, rfl, _, rfl, a, _, 4, _, rfl, rfl, SqT.of ha, rfl, _, _, rfl, rfl, _, _, rfl, rfl, _, rfl, ?_⟩
      by_cases c2 : t ≤ n
      · rw [decide_eq_true (show (t : Int) + 0 ≤ (n : Int) by omega)]
        refine iteT ⟨_, rfl, _, rfl, a, _, 1, _, rfl, rfl, SqT.of ha, rfl, _, _, rfl, rfl, ?_⟩
        have e : leftV t r m n = .int ((n : Int) - t) := by
          unfold leftV
          rw [if_pos ⟨c, c2⟩]
          congr 1
          omega
        rw [e] at k
        exact k
      · rw [decide_eq_false (show ¬ (t : Int) + 0 ≤ (n : Int) by omega)]
        have e : leftV t r m n = .non := by unfold leftV; rw [if_neg fun h => c2 h.2]
        rw [e] at k
        exact iteF k
    · rw [decide_eq_false (show ¬ ((n % m : Nat) : Int) = r by omega)]
      have e : leftV t r m n = .non := by unfold leftV; rw [if_neg fun h => c h.1]
      rw [e] at k
      exact iteT k
theorem ok_at (T : Txt P K mg) : FnR P w K mg base CX0 1 (gA K "_law_at") spAt := by
  refine okR0 T.fAt scAt (fun _ _ _ _ _ _ us hl => match us, hl with | [_, _], _ => rfl) (fun vs H Q E h => ?_) (fun cdv A outer s H vs Q E hr h => ?_)
  · obtain ⟨_, _, _, _, _, rfl, _⟩ := h
    rfl
  · obtain ⟨a, row, b, q, n, rfl, U, k⟩ := h
    obtain ⟨r, ha, hr'⟩ := U.ex
    have hl := U.len
    have q0 := U.q0
    have nd := scAt.nd
    refine ⟨_, pss_cons (ps_asg (pv 0) (pg_tup (n := 3) rfl (pgs_cons (pg_name (i := 2) nd rfl (Or.inl rfl)) (pgs_cons (pg_name (i := 3) nd rfl (Or.inl rfl)) (pgs_cons (pg_name (i := 4) nd rfl (Or.inl rfl)) pgs_nil)))))
      (pss_one (ps_ret (pe_ifExp (pt_cmpR op_lt (pv 1) (pv 3) (nomark _)) (pe_ix ix_list (pv 2) (pv 1) (fun _ _ => rfl))
        (pe_ix ix_list (pv 2) (pe_op op_add (pv 3) (pe_op op_mod (pe_callTy call_int1 (by rfl) T.nInt (by decide +kernel) (pa_cons (pe_op op_sub (pv 1) (pv 3)) pa_nil)) (pv 4))) (fun _ _ => rfl))))), ?_⟩
    refine ⟨_, rfl, a, _, rfl, SqT.of ha, rfl, _, _, rfl, _, _, rfl, _, _, rfl, rfl, ?_⟩
    refine ⟨_, rfl, _, rfl, _, _, rfl, rfl, _, rfl, ?_⟩
    by_cases c : n < b
    · rw [decide_eq_true (show (n : Int) < b by omega)]
      refine iteT ⟨_, rfl, _, rfl, r, _, _, _, rfl, rfl, SqL.of hr', atRow (by omega), ?_⟩
      have e : tw row b q n = row.getD n 0 := by rw [tw, if_pos c]
      rw [e] at k; exact k
    · rw [decide_eq_false (show ¬ (n : Int) < b by omega)]
      have e1 : (b : Int) + ((n : Int) - b) % q = ((b + (n - b) % q : Nat) : Int) := by
        rw [show (n : Int) - b = ((n - b : Nat) : Int) by omega, imod]; omega
      refine iteF ⟨_, rfl, _, rfl, _, rfl, _, rfl, _, _, rfl, rfl, .inl ⟨_, rfl, _, rfl, _, _, rfl, rfl, (by show (0 : Int) < q; omega), _, _, rfl, rfl, r, _, _, _, rfl, congrArg V.int e1, SqL.of hr', atRow (by have := Nat.mod_lt (n - b) q0; omega), ?_⟩⟩
      have e : tw row b q n = row.getD (b + (n - b) % q) 0 := by rw [tw, if_neg c]
      rw [e] at k; exact k
end
end FT
/-! The walk: the law's own look, its end; what is told. -/
namespace FT
open PySem PySem.Spec PyProof.Rows L2 FTM FTG
open PySem.W (Frag)
def spTold : Sp := fun vs H Q _ => ∃ (p c : Addr) (T : Nat), vs = [.ref p] ∧ Pen H p c T ∧ T ≤ 99000 ∧ ∀ a row b q H', SmB p H H' → Pen H' p c (T + 20) → ToldAt H' a row b q → Q (.ref a) H'
section
variable {P : Program} {w : World} {K : Frag} {mg : Str → Option Value} {base : Heap}
theorem ok_whole (T : Txt P K mg) : FnR P w K mg base CX0 1 (gA K "_law_whole") spCommon := by
  refine okR0 T.fWhole scWhole (fun _ _ _ _ _ _ us hl => match us, hl with | [_, _], _ => rfl) (fun vs H Q E h => ?_) (fun cdv A outer s H vs Q E hr h => ?_)
  · obtain ⟨a, b, rfl, _⟩ := h
    rfl
  · obtain ⟨a, b, rfl, ha, hb, q⟩ := h
    refine ⟨_, pss_cons (ps_set (i := 2) scWhole.nd rfl (Or.inl rfl) (pv 0)) (pss_cons (ps_while PassesOwn.never (pt_cmpR op_ne (pe_op op_mod (pe_callTy call_int1 (by rfl) T.nInt (by decide +kernel) (pa_cons (pv 2) pa_nil)) (pv 1)) pe_int (nomark _)) (pss_one (ps_set (i := 2) scWhole.nd rfl (Or.inl rfl) (pe_op op_add (pv 2) (pv 0)))))
      (pss_one (ps_ret (pv 2)))), ?_⟩
    refine ⟨_, rfl, fun k σ H' => ∃ c : Nat, σ = [some (.int a), some (.int b), some (.int c)] ∧ H' = H ∧ 0 < c ∧ c % a = 0 ∧ c ≤ a * b ∧ k = a * b - c,
      ⟨_, a, rfl, rfl, ha, Nat.mod_self a, Nat.le_mul_of_pos_right a hb, rfl⟩, ?_⟩
    rintro k σ H' ⟨c, rfl, rfl, c0, c1, c2, rfl⟩
    refine ⟨_, rfl, .inl ⟨_, rfl, _, rfl, _, _, rfl, rfl, (by show (0 : Int) < b; omega), rfl, _, rfl, ?_⟩⟩
    show if (!decide (V.int ((c : Int) % b) = V.int 0)) = true then _ else _
    rw [dec_int, imod]
    by_cases hz : c % b = 0
    · rw [hz]
      exact iteF ⟨_, rfl, q c c0 c1 hz c2⟩
    · rw [decide_eq_false (show ¬ ((c % b : Nat) : Int) = 0 by omega)]
      have lt : c < a * b := by
        rcases Nat.lt_or_eq_of_le c2 with l | l
        · exact l
        · rw [l, Nat.mul_mod_left] at hz; exact absurd rfl hz
      have le : c + a ≤ a * b := by
        have e : c = a * (c / a) := by have := Nat.div_add_mod c a; omega
        have l2 : c / a < b := by
          rw [e] at lt
          exact Nat.lt_of_mul_lt_mul_left lt
        have : a * (c / a + 1) ≤ a * b := Nat.mul_le_mul_left a l2
        rw [Nat.mul_add, Nat.mul_one] at this
        omega
      refine iteT ⟨fun σ' H'' => ∃ c' : Nat, σ' = [some (.int a), some (.int b), some (.int c')] ∧ H'' = H' ∧ 0 < c' ∧ c' % a = 0 ∧ c' ≤ a * b ∧ a * b - c' < a * b - c, fun σ' H'' ⟨c', e1, e2, e3, e4, e5, e6⟩ => ⟨_, e6, c', e1, e2, e3, e4, e5, rfl⟩,
        _, rfl, _, rfl, _, _, rfl, rfl, c + a, rfl, rfl, by omega, ?_, le, by omega⟩
      rw [Nat.add_mod_right]; exact c1
theorem ok_end (T : Txt P K mg) : FnR P w K mg base CX0 1 (gA K "_law_end") spEnd := by
  refine okR0 T.fEnd scEnd (fun _ _ _ _ _ _ us hl => match us, hl with | [_, _], _ => rfl) (fun vs H Q E h => ?_) (fun cdv A outer s H vs Q E hr h => ?_)
  · obtain ⟨_, _, _, _, _, _, _, _, rfl, _⟩ := h
    rfl
  · obtain ⟨a, p, row, b, q, t, r, m, rfl, U, Z, k⟩ := h
    obtain ⟨rr, ha, hr'⟩ := U.ex
    have hp := Z.at_
    have nd := scEnd.nd
    refine ⟨_, pss_cons (ps_asg (pv 0) (pg_tup (n := 3) rfl (pgs_cons (pg_name (i := 2) nd rfl (Or.inl rfl)) (pgs_cons (pg_name (i := 3) nd rfl (Or.inl rfl)) (pgs_cons (pg_name (i := 4) nd rfl (Or.inl rfl)) pgs_nil)))))
      (pss_cons (ps_set (i := 5) nd rfl (Or.inl rfl) (pe_ifExp (pt_cmpR op_eq (pe_ix ix_tup (pv 1) pe_int (fun _ _ => rfl)) pe_str (nomark _)) (pe_ix ix_tup (pv 1) pe_int (fun _ _ => rfl)) pe_int))
      (pss_cons (ps_set (i := 6) nd rfl (Or.inl rfl) (pe_ifExp (pt_cmpR op_eq (pe_ix ix_tup (pv 1) pe_int (fun _ _ => rfl)) pe_str (nomark _)) (pe_op op_add (pe_ix ix_tup (pv 1) pe_int (fun _ _ => rfl)) (pe_ix ix_tup (pv 1) pe_int (fun _ _ => rfl))) (pe_op op_add (pe_ix ix_tup (pv 1) pe_int (fun _ _ => rfl)) pe_int)))
      (pss_one (ps_ret (pe_callB (call_max2 rfl) (by rfl) T.nMax (by decide +kernel) (pa_cons (pe_callTy call_int1 (by rfl) T.nInt (by decide +kernel) (pa_cons (pv 6) pa_nil)) (pa_cons (pe_callTy call_int1 (by rfl) T.nInt (by decide +kernel) (pa_cons (pe_op op_add (pv 3) (pv 5)) pa_nil)) pa_nil))))))), ?_⟩
    refine ⟨_, rfl, a, _, rfl, SqT.of ha, rfl, _, _, rfl, _, _, rfl, _, _, rfl, rfl, ?_⟩
    refine ⟨_, rfl, p, _, 0, _, rfl, rfl, SqT.of hp, rfl, rfl, _, rfl, iteT ⟨_, rfl, p, _, 1, _, rfl, rfl, SqT.of hp, rfl, ?_⟩⟩
    refine ⟨_, rfl, p, _, 0, _, rfl, rfl, SqT.of hp, rfl, rfl, _, rfl, iteT ⟨_, rfl, p, _, 1, _, rfl, rfl, SqT.of hp, rfl, _, rfl, p, _, 4, _, rfl, rfl, SqT.of hp, rfl, _, _, rfl, rfl, ?_⟩⟩
    refine ⟨_, rfl, .inl ⟨_, rfl, _, rfl, _, rfl, _, _, rfl, rfl, .inl ⟨_, rfl, _, _, rfl, ?_⟩⟩⟩
    have e : (if (b : Int) + (t : Int) > (t : Int) + 0 then (b : Int) + (t : Int) else (t : Int) + 0) = ((b + t : Nat) : Int) := by
      split <;> omega
    rw [← e] at k
    exact k
theorem ok_lbarred (T : Txt P K mg) : FnR P w K mg base CX0 2 (gA K "_law_is_barred") spLBarred := by
  refine okR0 T.fLBarred scLBarred (fun _ _ _ _ _ _ us hl => match us, hl with | [_, _, _], _ => rfl) (fun vs H Q E h => ?_) (fun cdv A outer s H vs Q E hr h => ?_)
  · obtain ⟨_, _, _, _, _, _, _, _, _, rfl, _⟩ := h
    rfl
  · obtain ⟨a, p, row, b, q, t, r, m, n, rfl, U, Z, k⟩ := h
    have nd := scLBarred.nd
    refine ⟨_, pss_cons (ps_set (i := 3) nd rfl (Or.inl rfl) (pe_callR (ok_lleft T) hr T.gLLeft (by rfl) pass0 (pa_cons (pv 1) (pa_cons (pv 2) pa_nil))))
      (pss_one (ps_ret (pe_and (pe_cmp (pc_notN (pv 3))) (pe_one (pe_cmpR op_eq (pe_callR (ok_at T) hr T.gAt (by rfl) pass0 (pa_cons (pv 0) (pa_cons (pv 3) pa_nil))) (pe_callR (ok_at T) hr T.gAt (by rfl) pass0 (pa_cons (pv 0) (pa_cons (pv 2) pa_nil))) (nomark _)))))), ?_⟩
    refine ⟨_, rfl, _, rfl, p, t, r, m, n, rfl, Z, ?_⟩
    by_cases c : n % m = r ∧ t ≤ n
    · have e : leftV t r m n = .int ((n - t : Nat) : Int) := by unfold leftV; rw [if_pos c]
      rw [e]
      refine ⟨_, rfl, _, rfl, iteT ⟨_, rfl, _, rfl, a, row, b, q, n - t, rfl, U, _, rfl, _, rfl, a, row, b, q, n, rfl, U, rfl, ?_⟩⟩
      show Q (.bl (decide (V.int (tw row b q (n - t)) = V.int (tw row b q n)))) H
      rw [dec_int]
      have e2 : bB (tw row b q) t r m 0 n = decide (tw row b q (n - t) = tw row b q n) := by
        unfold bB
        rw [decide_eq_true (⟨by omega, c.1⟩ : t + 0 ≤ n ∧ n % m = r), Bool.true_and]
      rw [e2] at k
      exact k
    · have e : leftV t r m n = .non := by unfold leftV; rw [if_neg c]
      rw [e]
      have e2 : bB (tw row b q) t r m 0 n = false := by
        unfold bB
        rw [decide_eq_false (fun h : t + 0 ≤ n ∧ n % m = r => c ⟨h.2, by omega⟩), Bool.false_and]
      rw [e2] at k
      exact ⟨_, rfl, _, rfl, iteF k⟩
end
end FT
/-! The walk: what is due, what is told. -/
namespace FT
open PySem PySem.Spec PyProof.Rows L2 FTM FTG
open PySem.W (Frag)
section
variable {P : Program} {w : World} {K : Frag} {mg : Str → Option Value} {base : Heap}
theorem ok_due (T : Txt P K mg) : FnR P w K mg base CX0 3 (gA K "_law_due") spDue := by
  refine okR0 T.fDue scDue (fun _ _ _ _ _ _ us hl => match us, hl with | [_, _], _ => rfl) (fun vs H Q E h => ?_) (fun cdv A outer s H vs Q E hr h => ?_)
  · obtain ⟨_, _, _, _, _, _, _, _, rfl, _⟩ := h
    rfl
  · obtain ⟨a, p, row, b, q, t, r, m, rfl, U, Z, k⟩ := h
    obtain ⟨rr, ha, hr'⟩ := U.ex
    have hp := Z.at_
    have nd := scDue.nd
    have hr1 : Room 1 _ := hr.mono (by decide)
    have t1 := Z.t1
    have t12 := Z.t12
    have rm := Z.rm
    have m6 := Z.m6
    have b7 := U.b7
    have q0 := U.q0
    have q8 := U.q8
    refine ⟨_, pss_cons (ps_par (i := 2) (j := 3) rfl nd rfl rfl (by decide) rfl rfl (pa_cons (pe_callR (ok_end T) hr1 T.gEnd (by rfl) pass0 (pa_cons (pv 0) (pa_cons (pv 1) pa_nil))) (pa_cons pe_int pa_nil)) (by rfl))
      (pss_cons (ps_for PassesOwn.never rfl (pi_range1 rfl T.nRange (pa_cons (pe_op op_add (pv 2) (pe_callR (ok_whole T) hr1 T.gWhole (by rfl) pass0 (pa_cons (pe_ix ix_tup (pv 0) pe_int (fun _ _ => rfl)) (pa_cons (pe_ix ix_tup (pv 1) pe_int (fun _ _ => rfl)) pa_nil)))) pa_nil)) (pg_name (i := 4) nd rfl (Or.inl rfl))
        (pss_one (ps_if (pt_val (pe_callR (ok_lbarred T) hr T.gLBarred (by rfl) pass0 (pa_cons (pv 0) (pa_cons (pv 1) (pa_cons (pv 4) pa_nil)))))
          (pss_cons (ps_if (pt_cmpR op_ge (pv 4) (pv 2) (nomark _)) (pss_one (ps_ret pe_non)) pss_nil)
            (pss_one (ps_set (i := 3) nd rfl (Or.inl rfl) (pe_op op_add (pe_op op_sub (pv 4) (pe_ix ix_tup (pv 1) pe_int (fun _ _ => rfl))) pe_int)))) pss_nil)))
      (pss_one (ps_ret (pv 3)))), ?_⟩
    refine ⟨_, rfl, _, rfl, a, p, row, b, q, t, r, m, rfl, U, Z, _, _, rfl, ?_⟩
    refine ⟨_, rfl, _, rfl, a, _, 2, _, rfl, rfl, SqT.of ha, rfl, _, rfl, p, _, 3, _, rfl, rfl, SqT.of hp, rfl, q, m, rfl, q0, by omega, fun c c0 c1 c2 c3 => ?_⟩
    have cB : c ≤ 48 := by
      have : q * m ≤ 8 * 6 := Nat.mul_le_mul q8 m6
      omega
    let S : Nat := b + t
    let B : Nat → Bool := bB (tw row b q) t r m 0
    have hB : ∀ n, B n = true ↔ Bar (tw row b q) t r m n := fun n => ⟨fun h => (bB_iff.mp h).2, fun h => bB_iff.mpr ⟨h.1, h⟩⟩
    have rep := tw_rep row b q q0
    refine ⟨_, _, rfl, rfl, _, rfl, by omega, by omega, for_range (fun i σ H' => (∃ (lv : Nat) (hv : Option V), σ = [some (.ref a), some (.ref p), some (.int (S : Nat)), some (.int (lv : Nat)), hv] ∧ (∀ n, n < i → B n = true → n + 1 ≤ lv + t ∧ n < S) ∧ (lv = 0 ∨ B (lv - 1 + t) = true)) ∧ H' = H)
      ⟨⟨0, none, rfl, fun n hn => absurd hn (Nat.not_lt_zero _), .inl rfl⟩, rfl⟩ ?_ ?_⟩
    · rintro i σ H' hi ⟨⟨lv, hv, rfl, h3, h4⟩, rfl⟩
      have e0 : (0 : Int) + (i : Int) = ((i : Nat) : Int) := by omega
      rw [e0]
      refine ⟨_, rfl, _, rfl, _, rfl, a, p, row, b, q, t, r, m, i, rfl, U, Z, _, rfl, ?_⟩
      cases z : B i with
      | false =>
        rw [show bB (tw row b q) t r m 0 i = false from z]
        refine iteF ⟨⟨lv, _, rfl, fun n hn hb => ?_, h4⟩, rfl⟩
        rcases Nat.lt_or_ge n i with c | c
        · exact h3 n c hb
        · rw [show n = i by omega, z] at hb
          cases hb
      | true =>
        rw [show bB (tw row b q) t r m 0 i = true from z]
        have hbar := (hB i).mp z
        have hti := hbar.1
        refine iteT ⟨_, rfl, _, rfl, _, _, rfl, rfl, _, rfl, ?_⟩
        by_cases c : S ≤ i
        · rw [decide_eq_true (show ((S : Nat) : Int) ≤ (i : Int) by omega)]
          refine iteT (k none fun N => ?_)
          exact bar_inf rep c1 c2 c0 (n := i) (by omega) hbar N
        · rw [decide_eq_false (show ¬ ((S : Nat) : Int) ≤ (i : Int) by omega)]
          refine iteF ⟨_, rfl, _, rfl, p, _, 1, _, rfl, rfl, SqT.of hp, rfl, _, _, rfl, rfl, _, _, rfl, rfl, ⟨i - t + 1, some (.int i), ?_, fun n hn hb => ⟨by omega, by omega⟩, .inr ?_⟩, rfl⟩
          · have e : (i : Int) - t + 1 = ((i - t + 1 : Nat) : Int) := by omega
            rw [← e]
            rfl
          · rw [show i - t + 1 - 1 + t = i by omega]
            exact z
    · rintro σ H' ⟨⟨lv, hv, rfl, h3, h4⟩, rfl⟩
      refine ⟨_, rfl, k (some lv) ⟨fun n hn => ?_, ?_⟩⟩
      · have hbn := (hB n).mpr hn
        rcases Nat.lt_or_ge n (((S : Nat) : Int) + (c : Int)).toNat with d | d
        · exact (h3 n d hbn).1
        · refine absurd hn (no_bar_of rep c1 c2 c0 (S := S) (Nat.le_refl _) (fun j j1 j2 jb => ?_) n (by omega))
          have := (h3 j (by omega) ((hB j).mpr jb)).2
          omega
      · rcases h4 with h4 | h4
        · exact .inl h4
        · exact .inr ((hB _).mp h4)
theorem intsNe {H : Hp} {p c a : Addr} {T : Nat} {ns : List Int} (PN : Pen H p c T) (ha : H a = some (.lst (ns.map V.int))) : a ≠ p := by
  obtain ⟨cells, t, g, hp, _⟩ := PN.ex
  exact Pen.ne hp ha
theorem newNe {H : Hp} {p c a : Addr} {T : Nat} (PN : Pen H p c T) (ha : H a = none) : a ≠ p := fun e => by
  obtain ⟨cells, t, g, hp, _⟩ := PN.ex
  rw [e, hp] at ha
  cases ha
theorem ok_told (T : Txt P K mg) : FnR P w K mg base CX0 3 (gA K "_law_told") spTold := by
  refine okR0 T.fTold scTold (fun _ _ _ _ _ _ us hl => match us, hl with | [_], _ => rfl) (fun vs H Q E h => ?_) (fun cdv A outer s H vs Q E hr h => ?_)
  · obtain ⟨_, _, _, rfl, _⟩ := h
    rfl
  · obtain ⟨p, c, T0, rfl, PN, hT, k⟩ := h
    have nd := scTold.nd
    have hr1 : Room 1 _ := hr.mono (by decide)
    refine ⟨_, pss_cons (ps_par (i := 1) (j := 2) rfl nd rfl rfl (by decide) rfl rfl (pa_cons (pe_callR (ok_pick T) hr T.gPick (by rfl) pass0 (pa_cons (pv 0) (pa_cons (pe_lst (pa_cons pe_int (pa_cons pe_int (pa_cons pe_int (pa_cons pe_int (pa_cons (pe_callR (ok_draw T) hr1 T.gDraw (by rfl) pass0 (pa_cons (pv 0) (pa_cons pe_int pa_nil))) pa_nil)))))) pa_nil)))
          (pa_cons (pe_op op_add pe_int (pe_callR (ok_draw T) hr1 T.gDraw (by rfl) pass0 (pa_cons (pv 0) (pa_cons pe_int pa_nil)))) pa_nil)) (by rfl))
      (pss_cons (ps_set (i := 3) nd rfl (Or.inr rfl) (pe_callR (ok_pick T) hr T.gPick (by rfl) pass0 (pa_cons (pv 0) (pa_cons (pe_lst (pa_cons (pe_lst (pa_cons pe_int (pa_cons pe_int pa_nil))) (pa_cons (pe_lst (pa_cons pe_int (pa_cons pe_int (pa_cons pe_int pa_nil)))) (pa_cons (pe_lst (pa_cons pe_int (pa_cons pe_int (pa_cons pe_int (pa_cons pe_int (pa_cons pe_int pa_nil)))))) (pa_cons (pe_lst (pa_cons pe_int (pa_cons pe_int (pa_cons pe_int (pa_cons pe_int pa_nil))))) pa_nil))))) pa_nil))))
      (pss_one (ps_ret (pe_tup (pa_cons (pe_op op_cat (pe_lst (pa_cons pe_int pa_nil)) (pe_lc (own := [("_law_k", 4)]) (g := gName 4) (tt := tYes) rfl nd (pi_range1 rfl T.nRange (pa_cons (pe_op op_sub (pe_op op_add (pv 1) (pv 2)) pe_int) pa_nil)) (blkOk_by (N := ["_law_pen_here", "_law_ahead", "_law_turn", "_law_menu", "_law_k"]) (sc := defScope sTold) (by decide +kernel)) (fun _ _ _ _ _ => pg_name (i := 4) nd rfl (Or.inl rfl)) (fun _ _ _ _ _ => pts_nil)
          (fun _ _ _ _ _ => pe_callR (ok_pick T) hr T.gPick (by rfl) pass0 (pa_cons (pv 0) (pa_cons (pv 3) pa_nil))))) (pa_cons (pv 1) (pa_cons (pv 2) pa_nil))))))), ?_⟩
    -- the worths ahead
    refine ⟨_, rfl, _, rfl, p, c, 8, T0, rfl, by decide, by decide, PN, by omega, fun d H1 hd s1 P1 => ⟨(by show 5 ≤ sizeLine; decide), fun l1 hl1 => ?_⟩⟩
    have nl1 := newNe P1 hl1
    have P1' : Pen (upd H1 l1 (.lst [.int 0, .int 0, .int 1, .int 2, .int d])) p c (T0 + 1) := P1.same (same_upd (fun _ _ e => e) hl1)
    refine ⟨p, c, l1, _, T0 + 1, rfl, upd_same, nl1, by simp, by simp, P1', by omega, fun i v H2 hv s2 P2 => ?_⟩
    obtain ⟨b, b7, rfl⟩ : ∃ b : Nat, b ≤ 7 ∧ v = .int b := by
      match i, hv with
      | 0, hv => exact ⟨0, by omega, (Option.some.inj hv).symm⟩
      | 1, hv => exact ⟨0, by omega, (Option.some.inj hv).symm⟩
      | 2, hv => exact ⟨1, by omega, (Option.some.inj hv).symm⟩
      | 3, hv => exact ⟨2, by omega, (Option.some.inj hv).symm⟩
      | 4, hv => exact ⟨d, by omega, (Option.some.inj hv).symm⟩
      | n + 5, hv => simp at hv
    -- how many come again
    refine ⟨_, rfl, p, c, 8, T0 + 2, rfl, by decide, by decide, P2, by omega, fun d2 H3 hd2 s3 P3 => ⟨_, _, rfl, rfl, _, _, rfl, ?_⟩⟩
    have hs03 : SmB p H H3 := s1.trans ((smB_of (same_upd (fun _ _ e => e) hl1)).trans (s2.trans s3))
    -- the menu
    refine ⟨_, rfl, (by show 2 ≤ sizeLine; decide), fun m1 hm1 => ⟨(by show 3 ≤ sizeLine; decide), fun m2 hm2 => ⟨(by show 5 ≤ sizeLine; decide), fun m3 hm3 => ⟨(by show 4 ≤ sizeLine; decide), fun m4 hm4 => ⟨(by show 4 ≤ sizeLine; decide), fun l2 hl2 => ?_⟩⟩⟩⟩⟩
    have q1 : Same H3 (upd H3 m1 (.lst ([0, 1].map V.int))) := same_upd (fun _ _ e => e) hm1
    have q2 := same_upd (o := .lst ([0, 1, 2].map V.int)) q1 hm2
    have q3 := same_upd (o := .lst ([0, 0, 1, 2, 3].map V.int)) q2 hm3
    have q4 := same_upd (o := .lst ([0, 1, 7, 400].map V.int)) q3 hm4
    have q5 := same_upd (o := .lst [.ref m1, .ref m2, .ref m3, .ref m4]) q4 hl2
    have r1 : upd (upd (upd (upd (upd H3 m1 (.lst ([0, 1].map V.int))) m2 (.lst ([0, 1, 2].map V.int))) m3 (.lst ([0, 0, 1, 2, 3].map V.int))) m4 (.lst ([0, 1, 7, 400].map V.int))) l2 (.lst [.ref m1, .ref m2, .ref m3, .ref m4]) m1 = some (.lst ([0, 1].map V.int)) :=
      same_upd (same_upd (same_upd (same_upd (fun _ _ e => e) hm2) hm3) hm4) hl2 _ _ upd_same
    have r2 : upd (upd (upd (upd (upd H3 m1 (.lst ([0, 1].map V.int))) m2 (.lst ([0, 1, 2].map V.int))) m3 (.lst ([0, 0, 1, 2, 3].map V.int))) m4 (.lst ([0, 1, 7, 400].map V.int))) l2 (.lst [.ref m1, .ref m2, .ref m3, .ref m4]) m2 = some (.lst ([0, 1, 2].map V.int)) :=
      same_upd (same_upd (same_upd (fun _ _ e => e) hm3) hm4) hl2 _ _ upd_same
    have r3 : upd (upd (upd (upd (upd H3 m1 (.lst ([0, 1].map V.int))) m2 (.lst ([0, 1, 2].map V.int))) m3 (.lst ([0, 0, 1, 2, 3].map V.int))) m4 (.lst ([0, 1, 7, 400].map V.int))) l2 (.lst [.ref m1, .ref m2, .ref m3, .ref m4]) m3 = some (.lst ([0, 0, 1, 2, 3].map V.int)) :=
      same_upd (same_upd (fun _ _ e => e) hm4) hl2 _ _ upd_same
    have r4 : upd (upd (upd (upd (upd H3 m1 (.lst ([0, 1].map V.int))) m2 (.lst ([0, 1, 2].map V.int))) m3 (.lst ([0, 0, 1, 2, 3].map V.int))) m4 (.lst ([0, 1, 7, 400].map V.int))) l2 (.lst [.ref m1, .ref m2, .ref m3, .ref m4]) m4 = some (.lst ([0, 1, 7, 400].map V.int)) :=
      same_upd (fun _ _ e => e) hl2 _ _ upd_same
    have P3' := P3.same q5
    have nl2 := newNe (P3.same q4) hl2
    refine ⟨p, c, l2, [.ref m1, .ref m2, .ref m3, .ref m4], T0 + 3, rfl, upd_same, nl2, by simp, by simp, P3', by omega, fun i v H4 hv s4 P4 => ?_⟩
    obtain ⟨lm, ms, rfl, hm, m0, m9, mok⟩ : ∃ (lm : Addr) (ms : List Int), v = .ref lm ∧ H4 lm = some (.lst (ms.map V.int)) ∧ 0 < ms.length ∧ ms.length ≤ 5 ∧ ∀ z ∈ ms, 0 ≤ z ∧ z ≤ 400 := by
      match i, hv with
      | 0, hv => exact ⟨m1, [0, 1], (Option.some.inj hv).symm, s4 _ _ (intsNe P3' r1) r1, by decide, by decide, by decide⟩
      | 1, hv => exact ⟨m2, [0, 1, 2], (Option.some.inj hv).symm, s4 _ _ (intsNe P3' r2) r2, by decide, by decide, by decide⟩
      | 2, hv => exact ⟨m3, [0, 0, 1, 2, 3], (Option.some.inj hv).symm, s4 _ _ (intsNe P3' r3) r3, by decide, by decide, by decide⟩
      | 3, hv => exact ⟨m4, [0, 1, 7, 400], (Option.some.inj hv).symm, s4 _ _ (intsNe P3' r4) r4, by decide, by decide, by decide⟩
      | n + 4, hv => simp at hv
    have hs04 : SmB p H H4 := hs03.trans ((smB_of q5).trans s4)
    -- the row
    refine ⟨(by show 1 ≤ sizeLine; decide), fun l0 hl0 => ?_⟩
    have sq0 : Same H4 (upd H4 l0 (.lst [.int 0])) := same_upd (fun _ _ e => e) hl0
    have nl0 := newNe P4 hl0
    refine ⟨_, rfl, _, rfl, _, _, rfl, rfl, _, _, rfl, rfl, _, rfl, by omega, by omega, fun D hD => ?_⟩
    have nD := newNe (P4.same sq0) hD
    have nD0 : l0 ≠ D := ne_of_none upd_same hD
    have nmD : lm ≠ D := ne_of_none (sq0 _ _ hm) hD
    have nmp : lm ≠ p := intsNe P4 hm
    have ncD : c ≠ D := by
      obtain ⟨cells, t, g, h1, h2, _⟩ := P4.ex
      exact ne_of_none (sq0 _ _ h2) hD
    have eN : ((b : Int) + (1 + (d2 : Int)) - 1).toNat = b + d2 := by omega
    rw [eN]
    refine lc_range (fun i H' => Pen H' p c (T0 + 4 + i) ∧ SmB p H4 H' ∧ H' l0 = some (.lst [.int 0]) ∧ ∃ zs : List Int, H' D = some (.lst (zs.map V.int)) ∧ zs.length = i ∧ ∀ z ∈ zs, 0 ≤ z ∧ z ≤ 400) ?_ ?_ ?_
    · have sD := same_upd (o := .lst []) sq0 hD
      refine ⟨P4.same sD, smB_of sD, ?_, [], upd_same, rfl, fun z hz => nomatch hz⟩
      rw [upd_ne nD0, upd_same]
    · rintro i H5 hi ⟨P5, s5, h50, zs, hz, hzl, hzo⟩
      refine ⟨rfl, ?_⟩
      refine ⟨_, rfl, _, rfl, p, c, lm, ms.map V.int, T0 + 4 + i, rfl, s5 _ _ nmp hm, nmp, by rw [List.length_map]; exact m0, by rw [List.length_map]; omega, P5, by omega, fun j v H6 hv s6 P6 => ?_⟩
      obtain ⟨z, hz2, rfl⟩ : ∃ z, ms[j]? = some z ∧ v = V.int z := by
        rw [List.getElem?_map] at hv
        cases e : ms[j]? with
        | none => rw [e] at hv; cases hv
        | some z => rw [e] at hv; exact ⟨z, rfl, (Option.some.inj hv).symm⟩
      have hD6 := s6 _ _ nD hz
      refine ⟨_, hD6, ?_, ?_, ?_, ?_, zs ++ [z], ?_, by simp [hzl], ?_⟩
      · rw [List.length_map, hzl, sizeLine_eq]
        omega
      · obtain ⟨cells, t, g, h1, h2, h3, h4⟩ := P6.ex
        refine ⟨cells, t, g, by rw [upd_ne nD.symm]; exact h1, ?_, h3, by omega⟩
        rw [upd_ne ncD]
        exact h2
      · intro c o hc e
        rw [upd_ne (ne_of_none e (sq0.free hD))]
        exact s6 _ _ hc (s5 _ _ hc e)
      · rw [upd_ne nD0]
        exact s6 _ _ nl0 h50
      · rw [upd_same, List.map_append]
        rfl
      · intro y hy
        rcases List.mem_append.mp hy with h | h
        · exact hzo y h
        · rw [List.mem_singleton.mp h]
          exact mok z (List.mem_of_getElem? hz2)
    · rintro H5 ⟨P5, s5, h50, zs, hz, hzl, hzo⟩
      refine ⟨l0, D, _, _, rfl, rfl, h50, hz, ?_, fun q hq => ?_⟩
      · rw [List.length_map, hzl, sizeLine_eq]
        simp
        omega
      refine ⟨_, rfl, _, rfl, (by show 3 ≤ sizeLine; decide), fun a hqa => ?_⟩
      have sq : Same H5 (upd H5 q (.lst ([.int 0] ++ zs.map V.int))) := same_upd (fun _ _ e => e) hq
      have sqa := same_upd (o := .tup [.ref q, .int b, .int (1 + (d2 : Int))]) sq hqa
      refine k a (0 :: zs) b (1 + d2) _ (hs04.trans (s5.trans (smB_of sqa))) ((P5.same sqa).mono (by omega)) ⟨⟨q, ?_, ?_⟩, by simp [hzl]; omega, b7, by omega, by omega, rfl, ?_⟩
      · rw [upd_same]
        rfl
      · rw [upd_ne (ne_of_none upd_same hqa), upd_same]
        rfl
      · intro y hy
        rcases List.mem_cons.mp hy with h | h
        · rw [h]; decide
        · exact hzo y h
end
end FT
/-! The walk: the law's questions about one rule. -/
namespace FT
open StX (pe_makeR)
open PySem PySem.Spec PyProof.Rows L2 FTM FTG
open PySem.W (Frag)
theorem scRight : FnScope ["_law_pen_here", "_law_told_here", "_law_sheet", "_law_mod_so", "_law_part", "_law_due_here", "_law_found", "_law_again"] ["_law_pen_here", "_law_told_here", "_law_sheet"] (defScope sRight) := ⟨rfl, rfl, rfl, by decide +kernel, rfl, by decide +kernel, by decide +kernel⟩
theorem leave_le {w : Nat → Int} {t r m k b q : Nat} (h : IsLeave w t r m (some k)) (R : Rep w b q) (hm : 0 < m) : k ≤ b := by
  rcases Nat.lt_or_ge b k with c | c
  · obtain ⟨h1, h2⟩ := h
    rcases h2 with e | hb
    · omega
    · obtain ⟨n, n1, n2⟩ := bar_inf R (Nat.mul_mod_right q m) (Nat.mul_mod_left q m) (Nat.mul_pos R.pos hm) (n := k - 1 + t) (by omega) hb (k + t)
      have := h1 n n2
      omega
  · exact c
def reprO : Option Nat → Str
  | none => "None"
  | some k => Str.ofString (toString (k : Int))
section
variable {X : Cx}
theorem call_reprO : CallR X (.builtin "repr") (fun xs H Q => ∃ o : Option Nat, xs = [oV o] ∧ (∀ k, o = some k → k ≤ 1000) ∧ Q (.str (reprO o)) H) := by
  intro pins s σ H xs us Q I r h
  obtain ⟨o, rfl, hz, q⟩ := h
  cases o with
  | none =>
    obtain ⟨u, rfl, hu⟩ := vals1 r
    obtain rfl : u = Value.none := hu
    exact PySem.P.repr_of_none ⟨.str _, H, I.tok _, ⟨_, rfl⟩, q⟩
  | some k =>
    obtain ⟨u, rfl, t, rfl⟩ := vals1 r
    have hk := hz k rfl
    refine PySem.P.repr_of_int ?_ ⟨.str _, H, I.tok _, ⟨_, rfl⟩, q⟩
    have e : (k : Int).natAbs = k := by omega
    rw [e]
    exact Nat.lt_trans (PySem.Flt.log2_lt_of (by decide : 0 < 10) (Nat.lt_of_le_of_lt hk (by decide))) (by decide : 10 < 1920)
end
section
variable {X : Cx} {CX : CXT} {k n : Nat} {f : Addr} {fd : FuncData} {ps ks : List Str} {sp : Sp} {E : XK} {x : Str} {p pos : Pos} {kws : List Keyword} {tk : TA} {g : List Value → List Value → List Value} {gV : List V → List V → List V}
/-- f(k = v, ..) -/
theorem pe_callN0 (F : FnOk X.prog X.w X.K X.mg X.base CX k f fd ps sp) (hr : Room k X.A) (gd : X.mg x = some (.ref f) ∧ PySem.W.keepIn X.K (.ref f) = true) (hg : Gl X x) (hb : KBn X.K fd ps 0 ks g gV) (hx : Passes CX X E)
    (hkw : PK X kws tk) (hall : (backToKw pos (keywordEach kws X.env)).all (·.1.isSome) = true := by rfl) (hks : (backToKw pos (keywordEach kws X.env)).filterMap (·.1) = ks := by rfl)
    (hdb : (x == ("__debug__" : Str)) = false := by decide) (hpl : ((backTo pos (starEach [] X.env)).any (·.1) || (backToKw pos (keywordEach kws X.env)).any (·.1.isNone)) = false := by rfl) :
    PE X (.Call (.Name x p) [] kws pos) (tCallN 0 ks.length sp gV E tNil tk) := by
  refine ⟨fun pins s σ H Q I h => ?_⟩
  refine wpAny_Call_Name_kw (ld_glob I hg gd.1 ?_ hdb)
  refine PySem.W.callWith_KW0 (h₀ := X.base) I.ok.mod.kin gd.2 hall ?_ hpl
  refine thn (hkw.run pos pins s σ H _ I h) fun ws s2 ⟨zs, H2, I2, rz, l1, l2, q2⟩ => ⟨I2.kIn, ?_⟩
  rw [hks]
  exact run_fnN (us := []) (vs := []) F hr hb hx I2 .nil rz rfl l2 q2
end
/-- all by keyword, defaults not asked -/
theorem kbinds1 {K : Frag} {x qual : Str} {params : Arguments} {body : List Stmt} {scope : Scope} {dvs : List V} {f : Addr} {fd : FuncData} {ps : List Str} (F : FunD K x qual params body scope dvs [] f fd) (ks : List Str) (g : {α : Type} → List α → List α) (hd : dvs ≠ [])
    (hrel : ∀ {zs : List V} {ws : List Value}, Vals zs ws → Vals (g zs) (g ws))
    (h : ∀ (T : Addr) (kV doc pm : Value) (an : Option Addr) (cdv ct : Value) (its ws : List Value), its.length = dvs.length → ws.length = ks.length →
      ∃ k, bindArgs (PySem.W.fnOf x qual params body scope (.ref T) kV doc pm an cdv ct) ⟨[], ks.zip ws⟩ = seqItems? (.ref T) >>= k ∧ k (some its.toArray) = pure (ps.zip (g ws))) : KBn K fd ps 0 ks (fun _ ws => g ws) (fun _ zs => g zs) := by
  obtain ⟨oc, od, dV, kV, doc, pm, an, cdv, ct, osl, rfl, lk, hcd, hD, hK⟩ := F.ex
  rcases hD with ⟨e, _⟩ | ⟨_, T, o, its, m, rfl, lT, oT, rT⟩
  · exact absurd e hd
  · refine ⟨fun s us ws X l1 l2 => ?_, fun _ r2 => hrel r2⟩
    obtain rfl := List.eq_nil_of_length_eq_zero l1
    obtain ⟨k, e1, e2⟩ := h T kV doc pm an cdv ct its ws rT.length.symm l2
    refine BindsTo.of_looks fun M => ?_
    rw [e1]
    exact looks_items X lT oT (.of_pure e2)
def perm4 {α : Type} : List α → List α
  | [m, r, s, t] => [t, s, r, m]
  | l => l
theorem perm4_rel : ∀ {zs : List V} {ws : List Value}, Vals zs ws → Vals (perm4 zs) (perm4 ws)
  | _, _, .cons a (.cons b (.cons c (.cons d .nil))) => .cons d (.cons c (.cons b (.cons a .nil)))
  | _, _, .nil => .nil
  | _, _, .cons a .nil => .cons a .nil
  | _, _, .cons a (.cons b .nil) => .cons a (.cons b .nil)
  | _, _, .cons a (.cons b (.cons c .nil)) => .cons a (.cons b (.cons c .nil))
  | _, _, .cons a (.cons b (.cons c (.cons d (.cons e r)))) => .cons a (.cons b (.cons c (.cons d (.cons e r))))
theorem ToldAt.smB {H H' : Hp} {p c a : Addr} {T : Nat} {row : List Int} {b q : Nat} (U : ToldAt H a row b q) (PN : Pen H p c T) (s : SmB p H H') : ToldAt H' a row b q := by
  obtain ⟨r, h1, h2⟩ := U.ex
  obtain ⟨cells, t, g, hp, _⟩ := PN.ex
  exact ⟨⟨r, s _ _ (ne_of h1 hp (by intro z; cases z)) h1, s _ _ (intsNe PN h2) h2⟩, U.len, U.b7, U.q0, U.q8, U.z0, U.ok⟩
theorem ToldAt.same' {H H' : Hp} {a : Addr} {row : List Int} {b q : Nat} (U : ToldAt H a row b q) (s : Same H H') : ToldAt H' a row b q :=
  ⟨let ⟨r, h1, h2⟩ := U.ex; ⟨r, s _ _ h1, s _ _ h2⟩, U.len, U.b7, U.q0, U.q8, U.z0, U.ok⟩
theorem TabAt.smB {K : Frag} {H H' : Hp} {p c a : Addr} {T : Nat} {wf : Nat → Int} {b q : Nat} (U : TabAt K H a wf b q) (PN : Pen H p c T) (s : SmB p H H') : TabAt K H' a wf b q := by
  obtain ⟨dx, t, row, h1, h2, h3, h4⟩ := U.at_
  obtain ⟨cells, tt, g, hp, _⟩ := PN.ex
  exact ⟨⟨dx, t, row, s _ _ (ne_of h1 hp (by intro z; cases z)) h1, s _ _ (ne_of h2 hp (by intro z; cases z)) h2, h3, h4⟩, U.q0, U.most⟩
theorem PartAt.smB {H H' : Hp} {p c a : Addr} {T t r m : Nat} (U : PartAt H a t r m) (PN : Pen H p c T) (s : SmB p H H') : PartAt H' a t r m := by
  obtain ⟨cells, tt, g, hp, _⟩ := PN.ex
  exact ⟨s _ _ (ne_of U.at_ hp (by intro z; cases z)) U.at_, U.t1, U.t12, U.rm, U.m6⟩
def spRight (K : Frag) : Sp := fun vs H Q _ => ∃ (p c a sh : Addr) (row : List Int) (b q kb kq T : Nat), vs = [.ref p, .ref a, .ref sh] ∧ Pen H p c T ∧ T ≤ 90000 ∧ ToldAt H a row b q ∧ TabAt K H sh (tw row b q) kb kq ∧ ∀ H', SmB p H H' → Pen H' p c (T + 6) → Q (.bl true) H'
section
variable {P : Program} {w : World} {K : Frag} {mg : Str → Option Value} {base : Heap}
theorem leastK (T : Txt P K mg) (KB : K.In base) : ∃ (fd : FuncData) (g : List Value → List Value → List Value), FnOk P w K mg base (L2.CX P w) 9 (gA K "least_leave") fd ["table", "size", "rest", "modulus"] (spLeast K) ∧
    KBn K fd ["table", "size", "rest", "modulus"] 0 ["modulus", "rest", "size", "table"] g (fun _ zs => perm4 zs) := by
  obtain ⟨fd, F⟩ := T.fLeast
  exact ⟨fd, _, ok_leastF T KB F, kbinds1 F _ perm4 (by simp) perm4_rel fun _ _ _ _ _ _ _ its ws h1 h2 => match its, ws, h1, h2 with | [_, _], [_, _, _, _], _, _ => ⟨_, rfl, rfl⟩⟩
theorem makeFix {H : Hp} {t r m l : Nat} {Q : Addr → Hp → Prop} (t1 : 1 ≤ t) (t4 : t ≤ 400) (rm : r < m) (m6 : m ≤ 6) (l4 : l ≤ 400) (k : ∀ x H', Same H H' → RuleAt K H' x t r m l → Q x H') :
    ∀ x dx, H x = none → H dx = none → dx ≠ x → spFixed K (.ref x :: [.int t, .int r, .int m, .int l]) (upd (upd H dx (.own x)) x (.ins (gA K "Fixed") dx [])) (fun v H2 => v = .non ∧ Q x H2) E0 := by
  intro x dx nx ndx ne
  have e1 : okInt (.int (t : Int)) 1 400 = true := by simp [okInt]; omega
  have e2 : okInt (.int (m : Int)) 1 6 = true := by simp [okInt]; omega
  have e3 : okInt (.int (r : Int)) 0 ((m : Int) - 1) = true := by simp [okInt]; omega
  refine ⟨x, dx, _, _, _, l, rfl, upd_same, fun _ _ => Kd.int _, fun _ _ => Kd.int _, fun _ _ => Kd.int _, l4, fun c => ?_, fun _ c => ?_, fun m' _ em _ c => ?_, fun t' r' m' et er em _ _ _ _ H' U s' => ⟨rfl, ?_⟩⟩
  · rw [e1] at c; cases c
  · rw [e2] at c; cases c
  · rw [← V.int.inj em, e3] at c; cases c
  · have a1 := V.int.inj et
    have a2 := V.int.inj er
    have a3 := V.int.inj em
    obtain rfl : t = t' := by omega
    obtain rfl : r = r' := by omega
    obtain rfl : m = m' := by omega
    exact k x H' (same_smB nx (same_new nx ndx) s') U
theorem okLeast {H : Hp} {sh : Addr} {wf : Nat → Int} {kb kq t r m : Nat} {o : Option Nat} {Q : VK} (R : TabAt K H sh wf kb kq) (t1 : 1 ≤ t) (t4 : t ≤ 400) (rm : r < m) (m6 : m ≤ 6) (ho : IsLeave wf t r m o) (k : ∀ H', Same H H' → Q (oV o) H') :
    spLeast K [.ref sh, .int t, .int r, .int m] H Q E0 := by
  have e1 : okInt (.int (t : Int)) 1 400 = true := by simp [okInt]; omega
  have e2 : okInt (.int (m : Int)) 1 6 = true := by simp [okInt]; omega
  have e3 : okInt (.int (r : Int)) 0 ((m : Int) - 1) = true := by simp [okInt]; omega
  refine ⟨sh, _, _, _, wf, kb, kq, rfl, R, fun _ _ => Kd.int _, fun _ _ => Kd.int _, fun _ _ => Kd.int _, fun c => ?_, fun _ c => ?_, fun m' _ em _ c => ?_, fun t' r' m' et er em _ _ _ _ o' H' ho' s' => ?_⟩
  · rw [e1] at c; cases c
  · rw [e2] at c; cases c
  · rw [← V.int.inj em, e3] at c; cases c
  · have a1 := V.int.inj et
    have a2 := V.int.inj er
    have a3 := V.int.inj em
    obtain rfl : t = t' := by omega
    obtain rfl : r = r' := by omega
    obtain rfl : m = m' := by omega
    obtain rfl := ho.uniq ho'
    exact k H' s'
theorem scalO (o : Option Nat) : scal (oV o) (oV o) = true := by cases o <;> rfl
theorem ok_right (T : Txt P K mg) (KB : K.In base) : FnR P w K mg base CX0 11 (gA K "_law_right") (spRight K) := by
  refine okR0 T.fRight scRight (fun _ _ _ _ _ _ us hl => match us, hl with | [_, _, _], _ => rfl) (fun vs H Q E h => ?_) (fun cdv A outer s H vs Q E hr h => ?_)
  · obtain ⟨_, _, _, _, _, _, _, _, _, _, rfl, _⟩ := h
    rfl
  · obtain ⟨p, c, a, sh, row, b, q, kb, kq, T0, rfl, PN, hT, U, R, k⟩ := h
    obtain ⟨fdK, gK, FK, bK⟩ := leastK (w := w) (base := base) T KB
    have nd := scRight.nd
    have hr1 : Room 1 _ := hr.mono (by decide)
    have hr2 : Room 2 _ := hr.mono (by decide)
    have hr3 : Room 3 _ := hr.mono (by decide)
    have hr5 : Room 5 _ := hr.mono (by decide)
    have hr9 : Room 9 _ := hr.mono (by decide)
    refine ⟨_, pss_cons (ps_set (i := 3) nd rfl (Or.inl rfl) (pe_callR (ok_pick T) hr2 T.gPick (by rfl) pass0 (pa_cons (pv 0) (pa_cons (pe_lst (pa_cons pe_int (pa_cons pe_int (pa_cons pe_int (pa_cons pe_int (pa_cons pe_int (pa_cons pe_int (pa_cons pe_int pa_nil)))))))) pa_nil))))
      (pss_cons (ps_set (i := 4) nd rfl (Or.inl rfl) (pe_tup (pa_cons pe_str (pa_cons (pe_op op_add pe_int (pe_callR (ok_draw T) hr1 T.gDraw (by rfl) pass0 (pa_cons (pv 0) (pa_cons pe_int pa_nil)))) (pa_cons (pe_callR (ok_draw T) hr1 T.gDraw (by rfl) pass0 (pa_cons (pv 0) (pa_cons (pv 3) pa_nil))) (pa_cons (pv 3) (pa_cons pe_int pa_nil)))))))
      (pss_cons (ps_set (i := 5) nd rfl (Or.inl rfl) (pe_callR (ok_due T) hr3 T.gDue (by rfl) pass0 (pa_cons (pv 1) (pa_cons (pv 4) pa_nil))))
      (pss_cons (ps_set (i := 6) nd rfl (Or.inl rfl) (pe_callR (ok_least4 T KB) hr9 T.gLeast (by rfl) passL (pa_cons (pv 2) (pa_cons (pe_ix ix_tup (pv 4) pe_int (fun _ _ => rfl)) (pa_cons (pe_ix ix_tup (pv 4) pe_int (fun _ _ => rfl)) (pa_cons (pe_ix ix_tup (pv 4) pe_int (fun _ _ => rfl)) pa_nil))))))
      (pss_cons (ps_set (i := 7) nd rfl (Or.inl rfl) (pe_callN0 FK hr9 T.gLeast (by rfl) bK passL (pk_cons (pe_ix ix_tup (pv 4) pe_int (fun _ _ => rfl)) (pk_cons (pe_ix ix_tup (pv 4) pe_int (fun _ _ => rfl)) (pk_cons (pe_ix ix_tup (pv 4) pe_int (fun _ _ => rfl)) (pk_cons (pv 2) pk_nil))))))
      (pss_cons (ps_if (PW.pt (pw_or (pt_cmpR op_ne (pe_callB call_reprO (by rfl) T.nRepr (by decide +kernel) (pa_cons (pv 6) pa_nil)) (pe_callB call_reprO (by rfl) T.nRepr (by decide +kernel) (pa_cons (pv 5) pa_nil)) (nomark _)) (pw_or1 (pt_cmpR op_ne (pv 7) (pv 5) (nomark _))))) pss_never pss_nil)
      (pss_cons (ps_if (PW.pt (pw_and (pt_cmpR op_eq (pv 3) pe_int (nomark _)) (pw_and1 (pt_cmpR op_ne (pe_callR (ok_least2 T KB) hr9 T.gLeast (by rfl) passL (pa_cons (pv 2) (pa_cons (pe_ix ix_tup (pv 4) pe_int (fun _ _ => rfl)) pa_nil))) (pv 5) (nomark _))))) pss_never pss_nil)
      (pss_cons (ps_if (pt_cmp (pc_isN (pv 5))) (pss_one (ps_ret (pe_not (pe_callR (ok_isFree T KB) hr T.gIsFree (by rfl) pass0 (pa_cons (pv 2) (pa_cons (pe_makeR T.mkFixed (ok_fixed5 T) hr5 (by rfl) T.mgFixed passL (pa_cons (pe_ix ix_tup (pv 4) pe_int (fun _ _ => rfl)) (pa_cons (pe_ix ix_tup (pv 4) pe_int (fun _ _ => rfl)) (pa_cons (pe_ix ix_tup (pv 4) pe_int (fun _ _ => rfl)) (pa_cons (pe_op op_add (pe_ix ix_tup (pv 1) pe_int (fun _ _ => rfl)) (pe_callR (ok_draw T) hr1 T.gDraw (by rfl) pass0 (pa_cons (pv 0) (pa_cons pe_int pa_nil)))) pa_nil))))) pa_nil)))))) pss_nil)
      (pss_cons (ps_if (PW.pt (pw_or (pt_cmpR op_gt (pv 5) (pe_fld (pv 2) rfl) (nomark _)) (pw_or1 (pt_not (pt_val (pe_callR (ok_isFree T KB) hr T.gIsFree (by rfl) pass0 (pa_cons (pv 2) (pa_cons (pe_makeR T.mkFixed (ok_fixed5 T) hr5 (by rfl) T.mgFixed passL (pa_cons (pe_ix ix_tup (pv 4) pe_int (fun _ _ => rfl)) (pa_cons (pe_ix ix_tup (pv 4) pe_int (fun _ _ => rfl)) (pa_cons (pe_ix ix_tup (pv 4) pe_int (fun _ _ => rfl)) (pa_cons (pv 5) pa_nil))))) pa_nil)))))))) pss_never pss_nil)
      (pss_one (ps_ret (pe_or (pe_cmpR op_eq (pv 5) pe_int (nomark _)) (pe_one (pe_not (pe_callR (ok_isFree T KB) hr T.gIsFree (by rfl) pass0 (pa_cons (pv 2) (pa_cons (pe_makeR T.mkFixed (ok_fixed5 T) hr5 (by rfl) T.mgFixed passL (pa_cons (pe_ix ix_tup (pv 4) pe_int (fun _ _ => rfl)) (pa_cons (pe_ix ix_tup (pv 4) pe_int (fun _ _ => rfl)) (pa_cons (pe_ix ix_tup (pv 4) pe_int (fun _ _ => rfl)) (pa_cons (pe_op op_sub (pv 5) pe_int) pa_nil))))) pa_nil)))))))))))))))), ?_⟩
    -- the modulus
    refine ⟨_, rfl, (by show 7 ≤ sizeLine; decide), fun l1 hl1 => ?_⟩
    have sl1 : Same H (upd H l1 (.lst [.int 1, .int 1, .int 2, .int 3, .int 4, .int 5, .int 6])) := same_upd (fun _ _ e => e) hl1
    refine ⟨p, c, l1, _, T0, rfl, upd_same, newNe PN hl1, by simp, by simp, PN.same sl1, by omega, fun i v H1 hv s1 P1 => ?_⟩
    obtain ⟨m, m1, m6, rfl⟩ : ∃ m : Nat, 1 ≤ m ∧ m ≤ 6 ∧ v = .int m := by
      match i, hv with
      | 0, hv => exact ⟨1, by omega, by omega, (Option.some.inj hv).symm⟩
      | 1, hv => exact ⟨1, by omega, by omega, (Option.some.inj hv).symm⟩
      | 2, hv => exact ⟨2, by omega, by omega, (Option.some.inj hv).symm⟩
      | 3, hv => exact ⟨3, by omega, by omega, (Option.some.inj hv).symm⟩
      | 4, hv => exact ⟨4, by omega, by omega, (Option.some.inj hv).symm⟩
      | 5, hv => exact ⟨5, by omega, by omega, (Option.some.inj hv).symm⟩
      | 6, hv => exact ⟨6, by omega, by omega, (Option.some.inj hv).symm⟩
      | n + 7, hv => simp at hv
    have s01 : SmB p H H1 := (smB_of sl1).trans s1
    -- the part
    refine ⟨_, rfl, p, c, 12, T0 + 1, rfl, by decide, by decide, P1, by omega, fun d1 H2 hd1 s2 P2 => ⟨_, _, rfl, rfl, ?_⟩⟩
    refine ⟨_, rfl, _, rfl, p, c, m, T0 + 2, rfl, by omega, by omega, P2, by omega, fun r H3 hrm s3 P3 => ?_⟩
    refine ⟨_, rfl, (by show 5 ≤ sizeLine; decide), fun pp hpp => ?_⟩
    have e1 : 1 + (d1 : Int) = ((d1 + 1 : Nat) : Int) := by omega
    obtain ⟨t, ht⟩ : ∃ t, t = d1 + 1 := ⟨_, rfl⟩
    dsimp only
    rw [e1, ← ht]
    have t1 : 1 ≤ t := by omega
    have t12 : t ≤ 12 := by omega
    have s34 := same_upd (o := .tup [.str "fixed", .int (t : Nat), .int r, .int m, .int 0]) (fun _ _ e => e) hpp
    have Z : PartAt (upd H3 pp (.tup [.str "fixed", .int (t : Nat), .int r, .int m, .int 0])) pp t r m := ⟨upd_same, t1, t12, hrm, m6⟩
    have s04 : SmB p H (upd H3 pp (.tup [.str "fixed", .int (t : Nat), .int r, .int m, .int 0])) := (s01.trans (s2.trans s3)).trans (smB_of s34)
    have P4 := P3.same s34
    generalize upd H3 pp (.tup [.str "fixed", .int (t : Nat), .int r, .int m, .int 0]) = H4 at Z s04 P4
    have U4 := U.smB PN s04
    have R4 := R.smB PN s04
    have hp4 := Z.at_
    -- what is due, what is found, twice
    refine ⟨_, rfl, _, rfl, a, pp, row, b, q, t, r, m, rfl, U4, Z, fun o ho => ?_⟩
    refine ⟨_, rfl, _, rfl, pp, _, 1, _, rfl, rfl, SqT.of hp4, rfl, _, rfl, pp, _, 2, _, rfl, rfl, SqT.of hp4, rfl, _, rfl, pp, _, 3, _, rfl, rfl, SqT.of hp4, rfl, ?_⟩
    dsimp only [tNil]
    refine okLeast R4 t1 (by omega) hrm m6 ho fun H5 s5 => ?_
    have hp5 := s5 _ _ hp4
    refine ⟨_, rfl, pp, _, 3, _, rfl, rfl, SqT.of hp5, rfl, _, rfl, pp, _, 2, _, rfl, rfl, SqT.of hp5, rfl, _, rfl, pp, _, 1, _, rfl, rfl, SqT.of hp5, rfl, _, rfl, rfl, rfl, ?_⟩
    show spLeast K [.ref sh, .int t, .int r, .int m] H5 _ E0
    refine okLeast (R4.same s5) t1 (by omega) hrm m6 ho fun H6 s6 => ?_
    have hp6 := s6 _ _ hp5
    have hb : ∀ lv, o = some lv → lv ≤ b := fun lv e => by
      subst e
      exact leave_le ho (tw_rep row b q U.q0) (by omega)
    have hb7 := U.b7
    have hO : ∀ lv, o = some lv → lv ≤ 1000 := fun lv e => by have := hb lv e; omega
    refine ⟨_, rfl, o, rfl, hO, _, rfl, o, rfl, hO, rfl, _, rfl, ?_⟩
    rw [show (!decide (V.str (reprO o) = V.str (reprO o))) = false by simp]
    refine iteF ⟨_, rfl, _, rfl, scalO o, _, rfl, ?_⟩
    rw [show (!decide (oV o = oV o)) = false by simp]
    refine iteF ?_
    refine ⟨_, rfl, rfl, _, rfl, ?_⟩
    by_cases cm : m = 1
    · obtain rfl : r = 0 := by omega
      subst cm
      refine iteT ⟨_, rfl, _, rfl, pp, _, 1, _, rfl, rfl, SqT.of hp6, rfl, ?_⟩
      dsimp only [tNil]
      show spLeast K [.ref sh, .int t, .int ((0 : Nat) : Int), .int ((1 : Nat) : Int)] H6 _ E0
      refine okLeast ((R4.same s5).same s6) t1 (by omega) hrm m6 ho fun H7 s7 => ⟨_, rfl, scalO o, _, rfl, ?_⟩
      rw [show (!decide (oV o = oV o)) = false by simp]
      refine iteF ?_
      have hp7 := s7 _ _ hp6
      have s47 : Same H4 H7 := s5.trans (s6.trans s7)
      have P7 := P4.same s47
      have U7 := U4.same' s47
      have R7 := R4.same s47
      obtain ⟨rr, ha7, _⟩ := U7.ex
      obtain ⟨dxs, ts, rows, hsh, _⟩ := R7.at_
      have s07 : SmB p H H7 := s04.trans (smB_of s47)
      refine ⟨_, rfl, _, rfl, ?_⟩
      cases o with
      | none =>
        refine iteT ⟨_, rfl, _, rfl, pp, _, 1, _, rfl, rfl, SqT.of hp7, rfl, _, rfl, pp, _, 2, _, rfl, rfl, SqT.of hp7, rfl, _, rfl, pp, _, 3, _, rfl, rfl, SqT.of hp7, rfl, _, rfl, a, _, 1, _, rfl, rfl, SqT.of ha7, rfl, _, rfl, p, c, 50, T0 + 3, rfl, by decide, by decide, P7, by omega, fun d3 H8 hd3 s8 P8 => ⟨_, _, rfl, rfl, ?_⟩⟩
        dsimp only [tNil]
        rw [show (b : Int) + (d3 : Int) = ((b + d3 : Nat) : Int) by omega]
        refine makeFix (l := b + d3) t1 (by omega) hrm m6 (by omega) fun x H9 s9 U9 => ?_
        refine ⟨sh, x, tw row b q, kb, kq, t, _, _, b + d3, rfl, (R7.smB P7 s8).same s9, U9, fun cc H10 s10 hcc => ⟨_, rfl, ?_⟩⟩
        have ecc : cc = false := by
          cases cc with
          | false => rfl
          | true => exact absurd (hcc.mp rfl) (ho.never _)
        rw [ecc]
        exact k H10 (s07.trans (s8.trans (smB_of (s9.trans s10)))) ((P8.same (s9.trans s10)).mono (by omega))
      | some lv =>
        have lb := hb lv rfl
        have lk := leave_le ho R7.rep (by omega)
        refine iteF ⟨_, rfl, _, rfl, sh, _, dxs, _, _, rfl, hsh, T.clTable, T.naBegin, rfl, _, _, rfl, rfl, _, rfl, ?_⟩
        rw [decide_eq_false (show ¬ (kb : Int) < (lv : Int) by omega)]
        refine iteF ⟨_, rfl, _, rfl, pp, _, 1, _, rfl, rfl, SqT.of hp7, rfl, _, rfl, pp, _, 2, _, rfl, rfl, SqT.of hp7, rfl, _, rfl, pp, _, 3, _, rfl, rfl, SqT.of hp7, rfl, _, rfl, ?_⟩
        dsimp only [tNil, oV]
        refine makeFix (l := lv) t1 (by omega) hrm m6 (by omega) fun x H9 s9 U9 => ?_
        refine ⟨sh, x, tw row b q, kb, kq, t, _, _, lv, rfl, R7.same s9, U9, fun cc H10 s10 hcc => ⟨_, rfl, ?_⟩⟩
        have ecc : cc = true := hcc.mpr ho.free
        rw [ecc]
        refine iteF ⟨_, rfl, rfl, _, rfl, ?_⟩
        have s710 := s9.trans s10
        by_cases z : lv = 0
        · subst z
          exact iteT (k H10 (s07.trans (smB_of s710)) ((P7.same s710).mono (by omega)))
        · rw [show decide (V.int (lv : Int) = V.int 0) = false from decide_eq_false fun e => z (by have := V.int.inj e; omega)]
          have hp10 := s710 _ _ hp7
          refine iteF ⟨_, rfl, _, rfl, pp, _, 1, _, rfl, rfl, SqT.of hp10, rfl, _, rfl, pp, _, 2, _, rfl, rfl, SqT.of hp10, rfl, _, rfl, pp, _, 3, _, rfl, rfl, SqT.of hp10, rfl, _, rfl, _, _, rfl, rfl, ?_⟩
          dsimp only [tNil]
          rw [show (lv : Int) - 1 = ((lv - 1 : Nat) : Int) by omega]
          refine makeFix (l := lv - 1) t1 (by omega) hrm m6 (by omega) fun x2 H11 s11 U11 => ?_
          refine ⟨sh, x2, tw row b q, kb, kq, t, _, _, lv - 1, rfl, R7.same (s710.trans s11), U11, fun cc2 H12 s12 hcc2 => ⟨_, rfl, ?_⟩⟩
          have ecc2 : cc2 = false := by
            cases cc2 with
            | false => rfl
            | true => exact absurd (hcc2.mp rfl) (ho.barred (by omega))
          rw [ecc2]
          have s712 := s710.trans (s11.trans s12)
          exact k H12 (s07.trans (smB_of s712)) ((P7.same s712).mono (by omega))
    · rw [show decide (V.int (m : Int) = V.int 1) = false from decide_eq_false fun e => cm (by have := V.int.inj e; omega)]
      refine iteF (iteF ?_)
      obtain ⟨H7, s7, e7⟩ : ∃ H7, Same H6 H7 ∧ H7 = H6 := ⟨H6, fun _ _ e => e, rfl⟩
      rw [← e7]
      have hp7 := s7 _ _ hp6
      have s47 : Same H4 H7 := s5.trans (s6.trans s7)
      have P7 := P4.same s47
      have U7 := U4.same' s47
      have R7 := R4.same s47
      obtain ⟨rr, ha7, _⟩ := U7.ex
      obtain ⟨dxs, ts, rows, hsh, _⟩ := R7.at_
      have s07 : SmB p H H7 := s04.trans (smB_of s47)
      refine ⟨_, rfl, _, rfl, ?_⟩
      cases o with
      | none =>
        refine iteT ⟨_, rfl, _, rfl, pp, _, 1, _, rfl, rfl, SqT.of hp7, rfl, _, rfl, pp, _, 2, _, rfl, rfl, SqT.of hp7, rfl, _, rfl, pp, _, 3, _, rfl, rfl, SqT.of hp7, rfl, _, rfl, a, _, 1, _, rfl, rfl, SqT.of ha7, rfl, _, rfl, p, c, 50, T0 + 3, rfl, by decide, by decide, P7, by omega, fun d3 H8 hd3 s8 P8 => ⟨_, _, rfl, rfl, ?_⟩⟩
        dsimp only [tNil]
        rw [show (b : Int) + (d3 : Int) = ((b + d3 : Nat) : Int) by omega]
        refine makeFix (l := b + d3) t1 (by omega) hrm m6 (by omega) fun x H9 s9 U9 => ?_
        refine ⟨sh, x, tw row b q, kb, kq, t, _, _, b + d3, rfl, (R7.smB P7 s8).same s9, U9, fun cc H10 s10 hcc => ⟨_, rfl, ?_⟩⟩
        have ecc : cc = false := by
          cases cc with
          | false => rfl
          | true => exact absurd (hcc.mp rfl) (ho.never _)
        rw [ecc]
        exact k H10 (s07.trans (s8.trans (smB_of (s9.trans s10)))) ((P8.same (s9.trans s10)).mono (by omega))
      | some lv =>
        have lb := hb lv rfl
        have lk := leave_le ho R7.rep (by omega)
        refine iteF ⟨_, rfl, _, rfl, sh, _, dxs, _, _, rfl, hsh, T.clTable, T.naBegin, rfl, _, _, rfl, rfl, _, rfl, ?_⟩
        rw [decide_eq_false (show ¬ (kb : Int) < (lv : Int) by omega)]
        refine iteF ⟨_, rfl, _, rfl, pp, _, 1, _, rfl, rfl, SqT.of hp7, rfl, _, rfl, pp, _, 2, _, rfl, rfl, SqT.of hp7, rfl, _, rfl, pp, _, 3, _, rfl, rfl, SqT.of hp7, rfl, _, rfl, ?_⟩
        dsimp only [tNil, oV]
        refine makeFix (l := lv) t1 (by omega) hrm m6 (by omega) fun x H9 s9 U9 => ?_
        refine ⟨sh, x, tw row b q, kb, kq, t, _, _, lv, rfl, R7.same s9, U9, fun cc H10 s10 hcc => ⟨_, rfl, ?_⟩⟩
        have ecc : cc = true := hcc.mpr ho.free
        rw [ecc]
        refine iteF ⟨_, rfl, rfl, _, rfl, ?_⟩
        have s710 := s9.trans s10
        by_cases z : lv = 0
        · subst z
          exact iteT (k H10 (s07.trans (smB_of s710)) ((P7.same s710).mono (by omega)))
        · rw [show decide (V.int (lv : Int) = V.int 0) = false from decide_eq_false fun e => z (by have := V.int.inj e; omega)]
          have hp10 := s710 _ _ hp7
          refine iteF ⟨_, rfl, _, rfl, pp, _, 1, _, rfl, rfl, SqT.of hp10, rfl, _, rfl, pp, _, 2, _, rfl, rfl, SqT.of hp10, rfl, _, rfl, pp, _, 3, _, rfl, rfl, SqT.of hp10, rfl, _, rfl, _, _, rfl, rfl, ?_⟩
          dsimp only [tNil]
          rw [show (lv : Int) - 1 = ((lv - 1 : Nat) : Int) by omega]
          refine makeFix (l := lv - 1) t1 (by omega) hrm m6 (by omega) fun x2 H11 s11 U11 => ?_
          refine ⟨sh, x2, tw row b q, kb, kq, t, _, _, lv - 1, rfl, R7.same (s710.trans s11), U11, fun cc2 H12 s12 hcc2 => ⟨_, rfl, ?_⟩⟩
          have ecc2 : cc2 = false := by
            cases cc2 with
            | false => rfl
            | true => exact absurd (hcc2.mp rfl) (ho.barred (by omega))
          rw [ecc2]
          have s712 := s710.trans (s11.trans s12)
          exact k H12 (s07.trans (smB_of s712)) ((P7.same s712).mono (by omega))
end
end FT
/-! A caught error that is kept behind its clause: the try, then the rest of the block with the error pinned. -/
namespace FT
open PySem PySem.Spec PyProof.Rows L2 FTM FTG
open PySem.W (Frag)
section
variable {X : Cx} {pins : List (Addr × Obj)} {σ : L2.St} {H : Hp} {s : Shared}
theorem inv_keep {a : Addr} {q : Addr × Obj} {pn' : List (Addr × Obj)} (I : Inv (X.suite a (q :: (X.pn ++ pins))) pn' σ H s) (ok : X.Ok) : Inv X (q :: pins) σ H s :=
  ⟨ok, I.os, I.bare, I.base, I.loc, I.cell, I.free, I.freeC, fun p hp => I.pin p (List.mem_append_left _ (by
    rcases List.mem_append.mp hp with h | h
    · exact List.mem_cons_of_mem _ (List.mem_append_left _ h)
    · rcases List.mem_cons.mp h with e | h
      · rw [e]; exact List.mem_cons_self
      · exact List.mem_cons_of_mem _ (List.mem_append_right _ h))), I.hok, I.len⟩
theorem inv_drop {q : Addr × Obj} {pn' : List (Addr × Obj)} {xe : Value → Shared → Prop} (I : Inv (X.tr (X.pn ++ (q :: pins)) xe) pn' σ H s) (ok : X.Ok) : Inv X pins σ H s :=
  ⟨ok, I.os, I.bare, I.base, I.loc, I.cell, I.free, I.freeC, fun p hp => I.pin p (List.mem_append_left _ (by
    rcases List.mem_append.mp hp with h | h
    · exact List.mem_append_left _ h
    · exact List.mem_append_right _ (List.mem_cons_of_mem _ h))), I.hok, I.len⟩
/-- the block's ends, the rest of the block behind its first statement -/
def SPJ (X : Cx) (pins : List (Addr × Obj)) (D : Ends) (rest : List Stmt) (f : Flow) (s : Shared) : Prop :=
  match f with
  | .next => wpAny (model X.prog X.w) X.A (execs rest X.env) (SP X pins D) X.xe s
  | f => SP X pins D f s
end
section
variable {X : Cx} {x n : Str} {c : Value} {i : Nat} {body suite rest : List Stmt} {b₀ : Stmt} {np pos pos' : Pos} {tb : WX → TS} {ts tr : Addr → Value → Option Addr → TS} {Wout : WX}
/-- what is wished of the body's error -/
def wKeep (K : Frag) (c : Value) (i m : Nat) (ts tr : Addr → Value → Option Addr → TS) (D : Ends) : WX := fun cls d σ H =>
  PySem.W.exmOne K cls c = some true ∧ (σ.length = m → ∀ a, H a = none → ts a cls d { nx := fun σ' H' => tr a cls d D (σ'.set i none) H', rt := fun _ _ => False } (σ.set i (some (.ref a))) H)
/-- try: body / except x as n: suite; rest. The body raises; the suite falls through; the rest knows the error -/
theorem pss_tryKeep (hs : X.stack = X.env :: X.outer) (hf : X.env.frame = some X.env.locals) (hN : X.N.Nodup) (hi : X.N[i]? = some n) (hln : X.env.kindOf n = some .local) (hc : Names X x c)
    (hb : ∀ (W : WX) (pn : List (Addr × Obj)) (xe : Value → Shared → Prop), Takes (X.tr pn xe) W → PassesOwn (model X.prog X.w) X.A X.env xe → PSs (X.tr pn xe) body (tb W))
    (hsu : ∀ (a : Addr) (oe : Obj) (cls : Value) (d : Option Addr) (pn : List (Addr × Obj)), Zc cls d oe → (∃ vs, oe.data = .fields vs) → PSs (X.suite a ((a, oe) :: pn)) (b₀ :: suite) (ts a cls d))
    (hre : ∀ (a : Addr) (oe : Obj) (cls : Value) (d : Option Addr) (pn : List (Addr × Obj)), Zc cls d oe → (∃ vs, oe.data = .fields vs) → (a, oe) ∈ pn → PSs (X.tr pn X.xe) rest (tr a cls d)) :
    PSs X (.Try body [.ExceptHandler (some (.Name x np)) (some n) (b₀ :: suite) pos'] [] [] pos :: rest) (fun D σ H => tb (wKeep X.K c i X.N.length ts tr D) { nx := fun _ _ => False, rt := fun _ _ => False } σ H) := by
  refine ⟨fun pins s σ H D I h => ?_⟩
  have ok := I.ok
  have hfr : X.A.frames = some (X.env :: X.outer) := by rw [ok.frames, hs]
  have hloc : Loc X.env.scope n := .inl hln
  refine wpAny_execs_cons ?_
  show wpAny _ _ _ (SPJ X pins D rest) _ _
  refine wpAny_Try_except ?_
  refine wpAny_mono ((hb (wKeep X.K c i X.N.length ts tr D) (X.pn ++ pins) (fun e s₁ => wpAny (model X.prog X.w) X.A (noteFrame e X.env) (fun _ s₂ => wpAny (model X.prog X.w) X.A (setFlight e none) (fun _ s₃ =>
    wpAny (model X.prog X.w) X.A (handleBy e X.env [.ExceptHandler (some (.Name x np)) (some n) (b₀ :: suite) pos']) (SPJ X pins D rest) X.xe s₃) X.xe s₂) X.xe s₁) (fun u s' xx => ?_) PassesOwn.looking).run [] s σ H _ (I.toTry _) h) (fun f s1 hsp => ?_) (fun e s1 he => he)
  · obtain ⟨a, B, sI, pins', σ', H', cls, d, rfl, J', nb, up, sky, na, os, ag, hb1, hyes⟩ := xx
    have J : Inv X pins σ' H' sI := J'.ofTry ok
    have sky' : Sky B (X.env :: X.outer) a (Zc cls d) X.env.locals s'.heap := by rw [← hs]; exact sky
    show wpAny (model X.prog X.w) X.A (noteFrame (.ref a) X.env) _ _ _
    refine Sky.land Zc.steady hfr hf sky' fun h3 fl3 up3 => ?_
    have J3 : Inv X pins σ' H' { s' with heap := h3 } := J.landed nb fl3.1 (up.trans up3) os ag
    obtain ⟨oe3, vs3, he3, hz3, hd3⟩ := fl3.there
    have notFr : ∀ {h : Heap} {o : Obj} {vs : Array Value}, h.FunFrames B (X.env :: X.outer) → h.get? a = some o → o.data = .fields vs → a ∉ frs (X.env :: X.outer) := fun {h o vs} ff e dd hm => by
      obtain ⟨_, o', e', hnf⟩ := ff.mem hm
      rw [e] at e'; cases e'
      exact hnf _ dd
    have nfr := notFr fl3.2.2.1 he3 hd3
    have nL : a ≠ X.env.locals := fun z => nfr (List.mem_filterMap.mpr ⟨X.env, List.mem_cons_self, by rw [hf, z]⟩)
    have nF : a ∉ X.fs := fun hm => by
      obtain ⟨e, he, q⟩ := List.mem_filterMap.mp hm
      exact nfr (List.mem_filterMap.mpr ⟨e, List.mem_cons_of_mem _ he, q⟩)
    have S3 := J3.suite he3 hd3 na nL nF
    refine wpAny_handleBy_cons (codeAny_handlers_test ?_) (by intro q; cases q)
    have LT : PySem.W.Looks (model X.prog X.w) h3 (typeOf (.ref a)) cls := fun A Q E s k q => wpAny_typeOf_ref (k _ _ he3) (by rw [hz3.1]; exact q)
    have LM := PySem.W.exm_one (M := model X.prog X.w) (J3.kIn) LT hb1
    have test : ∀ {Q : Value → Shared → Prop} {E : Value → Shared → Prop}, Q c { s' with heap := h3 } → wpAny (model X.prog X.w) (X.A.mark (some (.ref a))) (eval (.Name x np) X.env) Q E { s' with heap := h3 } := fun {Q E} q => by
      obtain ⟨hg, hdbg, hm | ⟨hm, hv, hnn⟩⟩ := hc
      · exact ld_glob (X := X.suite a ((a, oe3) :: (X.pn ++ pins))) S3 hg hm q hdbg
      · exact ld_blt (X := X.suite a ((a, oe3) :: (X.pn ++ pins))) S3 hg hm hv q hnn hdbg
    refine test (LM.here ?_)
    refine codeAny_handlers_suite_as ?_
    refine HandSPX.lands_againZ fl3 fun h4 fl4 up4 => ?_
    have J4 : Inv X pins σ' H' { s' with heap := h4 } := J.landed nb fl4.1 ((up.trans up3).trans up4) os ag
    obtain ⟨oe4, vs4, he4, hz4, hd4⟩ := fl4.there
    have S4 := J4.suite he4 hd4 na nL nF
    refine store_ok (X := X.suite a ((a, oe4) :: (X.pn ++ pins))) (v := .ref a) S4 hN hi hloc rfl (fun s5 S5 => ?_) (.inr hln)
    refine wpAny_mono ((hsu a oe4 cls d (X.pn ++ pins) hz4 ⟨_, hd4⟩).run [] s5 _ H' _ S5 (hyes J.len a na)) (fun f s6 hsp => ?_) (fun _ _ z => False.elim z)
    cases f with
    | next =>
      obtain ⟨σ6, H6, S6, q6⟩ := hsp
      refine gone_ok (inv_keep S6 ok) hN hi hln fun s7 J7 => ?_
      show wpAny (model X.prog X.w) X.A (execs rest X.env) (SP X pins D) X.xe s7
      have J8 : Inv (X.tr (X.pn ++ ((a, oe4) :: pins)) X.xe) [] (σ6.set i none) H6 s7 := J7.toTry _
      refine thn ((hre a oe4 cls d (X.pn ++ ((a, oe4) :: pins)) hz4 ⟨_, hd4⟩ (List.mem_append_right _ List.mem_cons_self)).run [] s7 _ H6 D J8 q6) fun f s9 hs9 => ?_
      cases f with
      | next => obtain ⟨σ9, H9, J9, q9⟩ := hs9; exact ⟨σ9, H9, inv_drop J9 ok, q9⟩
      | brk => obtain ⟨σ9, H9, J9, q9⟩ := hs9; exact ⟨σ9, H9, inv_drop J9 ok, q9⟩
      | cont => obtain ⟨σ9, H9, J9, q9⟩ := hs9; exact ⟨σ9, H9, inv_drop J9 ok, q9⟩
      | ret u => obtain ⟨v9, σ9, H9, J9, r9, q9⟩ := hs9; exact ⟨v9, σ9, H9, inv_drop J9 ok, r9, q9⟩
    | brk => obtain ⟨_, _, _, q⟩ := hsp; exact False.elim q
    | cont => obtain ⟨_, _, _, q⟩ := hsp; exact False.elim q
    | ret u => obtain ⟨_, _, _, _, _, q⟩ := hsp; exact False.elim q
  · cases f with
    | next => obtain ⟨_, _, _, q⟩ := hsp; exact False.elim q
    | brk => obtain ⟨_, _, _, q⟩ := hsp; exact False.elim q
    | cont => obtain ⟨_, _, _, q⟩ := hsp; exact False.elim q
    | ret u => obtain ⟨_, _, _, _, _, q⟩ := hsp; exact False.elim q
end
section
variable {X : Cx} {C fI a dd : Addr} {oe : Obj} {u : V}
/-- isinstance(e, c), e pinned, its own dict known -/
theorem call_isP (T : ExcC X.K C) (hcl : (PySem.W.clsIn X.K C).isSome = true) (hp : (a, oe) ∈ X.pn) (hz : Zc (.ref C) (some dd) oe) (hf : ∃ vs, oe.data = .fields vs) :
    CallR X (.builtin "isinstance") (fun xs H Q => ∃ (c : V) (cv : Value) (b : Bool) (fs : List (Str × V)), xs = [.ref a, c] ∧ (∀ u, RelV c u → u = cv) ∧ PySem.W.kitOne X.K (.ref C) cv = some b ∧ H dd = some (.xd fs) ∧ Q (.bl b) H) := by
  intro pins s σ H xs us Q I r h
  obtain ⟨c, cv, b, fs, rfl, hcv, e, ed, q⟩ := h
  cases r with
  | cons rx rr =>
    cases rr with
    | cons rt rr =>
      cases rr
      cases rx
      have ec := hcv _ rt
      subst ec
      obtain ⟨hget, _⟩ := I.pin (a, oe) (List.mem_append.mpr (.inl hp))
      obtain ⟨vs, hv⟩ := hf
      have hx : ObjOk X.prog X.w H s.heap dd (.xd fs) := I.hok dd _ ed
      obtain ⟨mA, hns, hr⟩ := hx
      obtain ⟨od, ho, hl⟩ := lookIn_ns hns
      have J : PySem.W.InstAt s.heap a oe C (some od) := ⟨hget, hz.1, by unfold PySem.W.notCls; rw [hv] <;> rfl, by rw [hz.2]; exact ho⟩
      exact PySem.W.kia_one (PySem.W.kitx_exc hcl T.hg T.hk T.hs T.ha T.hn T.ht T.hm) I.kIn J e (fun z => nomatch z) fun tk => ⟨.bl b, H, I.kept (t' := tk) fun _ _ z => z, rfl, q⟩
/-- e.part -/
theorem pe_part {e : Expr} {te : TE} {pos : Pos} (T : BadTxt X.prog X.K X.mg C fI) (hp : (a, oe) ∈ X.pn) (hz : Zc (.ref C) (some dd) oe) (hf : ∃ vs, oe.data = .fields vs) (he : PE X e te) (hb : attributeBase e "part" X.env (eval e X.env) = eval e X.env := by rfl) :
    PE X (.Attribute e "part" pos) (fun σ H Q => te σ H fun x H1 => x = .ref a ∧ ∃ v : V, H1 dd = some (.xd [(("part" : Str), v)]) ∧ Q v H1) := by
  refine ⟨fun pins s σ H Q I h => ?_⟩
  refine attr_of hb (thn (he.run pins s σ H _ I h) fun u s1 ⟨x, H1, I1, rx, ex, v, ea, q⟩ => ?_)
  subst ex
  obtain rfl : u = Value.ref a := rx
  obtain ⟨ha, _⟩ := I1.pin (a, oe) (List.mem_append.mpr (.inl hp))
  obtain ⟨vs, hd⟩ := hf
  have hx : ObjOk X.prog X.w H1 s1.heap dd (.xd [(("part" : Str), v)]) := I1.hok dd _ ea
  obtain ⟨mA, hns, hr⟩ := hx
  obtain ⟨od, ho, hl⟩ := lookIn_ns hns
  have l : List.lookup ("part" : Str) [(("part" : Str), v)] = some v := by simp [List.lookup]
  obtain ⟨u, hu, ru⟩ := RelO.some_of (v := v) (o := mA "part") (by rw [← l]; exact hr "part")
  have J : PySem.W.InstAt s1.heap a oe C (some od) := ⟨ha, hz.1, by unfold PySem.W.notCls; rw [hd] <;> rfl, by rw [hz.2]; exact ho⟩
  exact HandSPX.exc_get I1.kIn J T.ga T.gg T.exC (PySem.W.findObj_own T.hdC T.noN rfl (by rw [hl, hu])) (handed_of ru) ⟨v, H1, I1.tok _, ru, q⟩
end
theorem scHeard : FnScope ["_law_ask", "_law_caught", "error"] ["_law_ask"] (defScope sHeard) := ⟨rfl, rfl, rfl, by decide +kernel, rfl, by decide +kernel, by decide +kernel⟩
/-- heard: the part of the BadRule that the call raises -/
def THeard (K : Frag) : (XK → Hp → VK → Prop) → Hp → VK → Prop := fun tl H Q =>
  tl (fun cls d H' => cls = .ref (gA K "BadRule") ∧ ∃ (dd : Addr) (z : Str), d = some dd ∧ H' dd = some (.xd [(("part" : Str), .str z)]) ∧ Q (.str z) H') H (fun _ _ => False)
section
variable {X : Cx} {g : Addr} {cdg : Value} {q : Str}
theorem heard_gives (T : Txt X.prog X.K X.mg) (TE : ExcC X.K (gA X.K "BadRule")) (hcl : (PySem.W.clsIn X.K (gA X.K "BadRule")).isSome = true) :
    LamX.GivesTo X ["_law_ask", "_law_caught", "error"] "_law_heard" (defScope sHeard) g cdg (defBody sHeard) "_law_ask" q (THeard X.K) := by
  intro f c' s H Q tl act hc h
  have nd := scHeard.nd
  refine ⟨_, pss_cons (ps_set (i := 1) nd rfl (Or.inl rfl) pe_non)
    (pss_tryKeep (i := 2) (c := .ref (gA X.K "FreeError"))
      (tb := fun W D σ H => ∃ Ech : XK, (∀ cls d σ' H', Ech cls d H' → W cls d σ' H') ∧ σ[0]? = some (some (.ref f)) ∧ H c' = some (LamX.CodeO c' q) ∧ tl Ech H (fun _ H' => D.nx σ H'))
      (ts := fun a cls d => tAsg (tVar 2) (gName 1))
      rfl rfl nd rfl rfl ⟨rfl, by decide, .inl T.mgFE⟩ (fun W pn xe tk _ => ?_) (fun a oe cls d pn _ _ => pss_one (ps_set (i := 1) nd rfl (Or.inl rfl) (pv 2)))
      (tr := fun a cls d => fun D σ H => cls = .ref (gA X.K "BadRule") ∧ σ[1]? = some (some (.ref a)) ∧ ∃ (dd : Addr) (z : Str), d = some dd ∧ H dd = some (.xd [(("part" : Str), .str z)]) ∧ D.rt (.str z) H)
      (fun a oe cls d pn hz hf hp => ?_)), ?_⟩
  · refine ⟨fun pins s' σ H' D I h' => ?_⟩
    obtain ⟨Ech, hW, h1, h2, h3⟩ := h'
    exact (pss_one (ps_expr (act W pn xe Ech _ _ tk hW))).run pins s' σ H' D I ⟨h1, h2, h3⟩
  · refine ⟨fun pins s' σ H' D I h' => ?_⟩
    obtain ⟨rfl, h1, dd, z, rfl, h2, h3⟩ := h'
    let Z : Cx := (cxOf C8.CX0 X.prog X.w X.K X.mg X.base ["_law_ask", "_law_caught", "error"] "_law_heard" (defScope sHeard) g cdg X.A X.stack s H C8.E0).nox
    let Y : Cx := Z.tr pn Z.xe
    have hps : PSs Y ((defBody sHeard).drop 2) _ := pss_cons (ps_if (pt_cmp (pc_isN (pv 1))) pss_never pss_nil)
      (pss_one (ps_ret (pe_ifExp (PW.pt (pw_and (pt_val (pe_callB (call_isP (X := Y) TE hcl hp hz hf) (by rfl) T.nIsi (by decide +kernel) (pa_cons (pv 1) (pa_cons (pe_glob (v := .ref (gA X.K "BadRule")) (by rfl) T.bad.gC rfl) pa_nil))))
        (pw_and1 (pt_val (pe_callB (call_isP (X := Y) TE hcl hp hz hf) (by rfl) T.nIsi (by decide +kernel) (pa_cons (pv 1) (pa_cons (pe_bltn (v := .ty "ValueError") (u := .type "ValueError") (by rfl) T.nVE (by decide +kernel) rfl) pa_nil)))))))
        (pe_part (X := Y) T.bad hp hz hf (pv 1)) pe_str)))
    refine hps.run pins s' σ H' D I ?_
    refine ⟨_, h1, _, rfl, iteF ?_⟩
    refine ⟨_, h1, _, _, true, _, rfl, fun u hu => hu, T.isB, h2, _, rfl, iteT ⟨_, h1, _, _, true, _, rfl, fun u hu => hu, T.isV, h2, _, rfl, iteT ?_⟩⟩
    exact ⟨_, h1, rfl, _, h2, h3⟩
  · refine ⟨fun cls d H' => cls = .ref (gA X.K "BadRule") ∧ ∃ (dd : Addr) (z : Str), d = some dd ∧ H' dd = some (.xd [(("part" : Str), .str z)]) ∧ Q (.str z) H', fun cls d σ' H' he => ?_, rfl, hc, h⟩
    obtain ⟨rfl, dd, z, rfl, h2, h3⟩ := he
    refine ⟨T.exFE, fun hl a na => ?_⟩
    match σ', hl with
    | [_, _, _], _ => exact ⟨_, rfl, rfl, rfl, dd, z, rfl, h2, h3⟩
end
end FT
/-! The walk: what is refused. -/
namespace FT
open PySem PySem.Spec PyProof.Rows L2 FTM FTG
open PySem.W (Frag)
open LamX (Tabs TabS ExtN TabB CodeO)
theorem scRefused : FnScope ["_law_pen_here", "_law_sheet", "_law_heard_here", "_law_bad", "_law_odd", "_law_wrong"] ["_law_pen_here", "_law_sheet"] (defScope sRefused) := ⟨rfl, rfl, rfl, by decide +kernel, rfl, by decide +kernel, by decide +kernel⟩
/-- the lambdas' name -/
def qLam : Str := (envOfC "_law_refused_right" (defScope sRefused) 0 0 .none).qual ++ "<lambda>"
/-- all as it was, but at p and the tables -/
abbrev SmT (p : Addr) (H H' : Hp) : Prop := ∀ b o, b ≠ p → (∀ ps, o ≠ .tbl ps) → H b = some o → H' b = some o
theorem SmT.trans {p : Addr} {H H1 H2 : Hp} (a : SmT p H H1) (b : SmT p H1 H2) : SmT p H H2 := fun c o h n e => b c o h n (a c o h n e)
theorem smT_of {p : Addr} {H H1 : Hp} (s : SmB p H H1) : SmT p H H1 := fun c o h _ e => s c o h e
theorem smT_ext {p : Addr} {H H1 : Hp} (s : ExtN H H1) : SmT p H H1 := fun c o _ n e => s c o e n
theorem tabs_smB {p c : Addr} {T0 : Nat} {T : List (Addr × Str)} {H H' : Hp} (PN : Pen H p c T0) (s : SmB p H H') (t : Tabs T H) : Tabs T H' := fun x hx => by
  obtain ⟨ps, h1, h2, h3⟩ := t x hx
  obtain ⟨cells, tt, g, hp, _⟩ := PN.ex
  refine ⟨ps, s _ _ (ne_of h1 hp (by intro z; cases z)) h1, h2, fun pos cv hc => ?_⟩
  obtain ⟨c', e1, e2⟩ := h3 pos cv hc
  exact ⟨c', e1, s _ _ (ne_of e2 hp (by intro z; unfold CodeO at z; cases z)) e2⟩
theorem Pen.ext {p c : Addr} {T0 : Nat} {H H' : Hp} (PN : Pen H p c T0) (e : ExtN H H') : Pen H' p c T0 := by
  obtain ⟨cells, tt, g, h1, h2, h3, h4⟩ := PN.ex
  exact ⟨cells, tt, g, e _ _ h1 (fun _ z => by cases z), e _ _ h2 (fun _ z => by cases z), h3, h4⟩
theorem TabAt.ext {K : Frag} {H H' : Hp} {a : Addr} {wf : Nat → Int} {b q : Nat} (U : TabAt K H a wf b q) (e : ExtN H H') : TabAt K H' a wf b q := by
  obtain ⟨dx, t, row, h1, h2, h3, h4⟩ := U.at_
  exact ⟨⟨dx, t, row, e _ _ h1 (fun _ z => by cases z), e _ _ h2 (fun _ z => by cases z), h3, h4⟩, U.q0, U.most⟩
/-- a value whose kind is known -/
def KV (p : Addr) (H : Hp) (v : V) : Prop := (∃ i, v = .int i) ∨ (∃ b, v = .bl b) ∨ v = .non ∨ (∃ z, v = .str z) ∨ ∃ a o, v = .ref a ∧ a ≠ p ∧ H a = some o ∧ ((∃ xs, o = .lst xs) ∨ (∃ xs, o = .tup xs) ∨ ∃ kvs, o = .dK kvs)
theorem KV.smT {p : Addr} {H H' : Hp} {v : V} (k : KV p H v) (s : SmT p H H') : KV p H' v := by
  rcases k with k | k | k | k | ⟨a, o, e, n, h, z⟩
  · exact .inl k
  · exact .inr (.inl k)
  · exact .inr (.inr (.inl k))
  · exact .inr (.inr (.inr (.inl k)))
  · refine .inr (.inr (.inr (.inr ⟨a, o, e, n, s _ _ n (fun ps q => ?_) h, z⟩)))
    rw [q] at z
    rcases z with ⟨_, z⟩ | ⟨_, z⟩ | ⟨_, z⟩ <;> cases z
theorem KV.kd {K : Frag} {p : Addr} {H : Hp} {v : V} (k : KV p H v) : KdS K H v := fun H' s => by
  rcases k with ⟨i, rfl⟩ | ⟨b, rfl⟩ | rfl | ⟨z, rfl⟩ | ⟨a, o, rfl, n, h, z⟩
  · exact Kd.int _
  · exact Kd.bl _
  · exact Kd.non
  · exact Kd.str _
  · rcases z with ⟨xs, rfl⟩ | ⟨xs, rfl⟩ | ⟨xs, rfl⟩
    · exact Kd.lst (s _ _ h)
    · exact Kd.tup (s _ _ h)
    · exact Kd.dK (s _ _ h)
/-- what is more to be known of the errors' class and of the lambdas' maker, whose code object is at c -/
structure Txt2 (K : Frag) (c : Addr) : Prop where
  exB : ExcC K (gA K "BadRule")
  clB : (PySem.W.clsIn K (gA K "BadRule")).isSome = true
  fn : ∃ (oc kV doc pm ct : Value) (od an : Option Addr) (osl : Array (Option Value)), K.lookup (gA K "_law_refused_right") = some ⟨oc, od, .func (PySem.W.fnOf "_law_refused_right" "_law_refused_right" (defArgs sRefused) (defBody sRefused) (defScope sRefused) .none kV doc pm an (.ref c) ct), osl⟩ ∧
    PySem.W.codeIn K (.ref c) "_law_refused_right" = true
def spRefused (K : Frag) (P : Addr) : Sp := fun vs H Q _ => ∃ (p c sh : Addr) (wf : Nat → Int) (kb kq T : Nat), vs = [.ref p, .ref sh] ∧ Pen H p c T ∧ T ≤ 90000 ∧ TabAt K H sh wf kb kq ∧ Tabs [(P, qLam)] H ∧
  ∀ H', SmT p H H' → Pen H' p c (T + 3) → Tabs [(P, qLam)] H' → Q (.bl true) H'
section
variable {X : Cx} {cm P : Addr} {params : Arguments} {body : Expr} {scope : Scope} {t : XK → TE} {p lpos pos : Pos}
/-- _law_heard(lambda: body) -/
theorem pe_heard (T : Txt X.prog X.K X.mg) (T2 : Txt2 X.K cm) (hq : X.env.qual ++ "<lambda>" = qLam) (TB : TabB X.base X.mg cm P) (hcode : X.env.code = .ref cm) (hr : Room 11 X.A) (hg : Gl X "_law_heard") (L : LamX.LamS X.env.scope scope) (hdef : defaultsOf params X.env = ([], []))
    (hbind : ∀ (q : Str) (cl : List (Str × Addr)) (pm cv ctv : Value), bindArgs (PySem.W.kla_fn "<lambda>" q params body scope cl pm cv ctv) ⟨[], []⟩ = pure [])
    (hbody : ∀ (A : Around) (outer : List Env) (s : Shared) (H : Hp) (E : XK) (f c' : Addr), Room 9 (A.deeper (LamX.lamEnv X scope s.heap.objs.size f c')) → PE (LamX.lamCx X A outer s H E scope f c') body (t E)) :
    PE X (.Call (.Name "_law_heard" p) [.Lambda params body scope lpos] [] pos) (LamX.tLam [(P, qLam)] (THeard X.K) t) := by
  obtain ⟨fd, F⟩ := T.fHeard
  have hb := F.bindsN (ps := ["_law_ask"]) (fun _ _ _ _ _ _ us hl => match us, hl with | [_], _ => rfl)
  obtain ⟨oc, od, dV, kV, doc, pm, an, cdv, ct, osl, rfl, lk, hcd, _, _⟩ := F.ex
  refine LamX.pe_lamcall (k := 9) (Ng := ["_law_ask", "_law_caught", "error"]) (a := "_law_ask") hg T.gHeard.1 T.gHeard.2 lk hcd hb scHeard rfl (Or.inl rfl) (heard_gives T T2.exB T2.clB) TB hcode (by rw [hq]; exact List.mem_singleton.mpr rfl) (fun x hx _ => ?_) hr L hdef hbind hbody
  rw [hq, List.mem_singleton.mp hx]
end
section
variable {X : Cx}
theorem thruL {A : Around} {outer : List Env} {s : Shared} {H : Hp} {E : XK} {scope : Scope} {f c' : Addr} : Passes (L2.CX X.prog X.w) (LamX.lamCx X A outer s H E scope f c') E := passes_call (takes_of rfl rfl rfl rfl) fun _ _ _ _ h => h
theorem pe_heardL {cm P : Addr} {sp : Sp} {params : Arguments} {scope : Scope} {e : Expr} {es : List Expr} {t : TA} {p lpos pos p1 p2 : Pos} (T : Txt X.prog X.K X.mg) (T2 : Txt2 X.K cm) (F : FnR X.prog X.w X.K X.mg X.base (L2.CX X.prog X.w) 9 (gA X.K "least_leave") sp)
    (hq : X.env.qual ++ "<lambda>" = qLam) (TB : TabB X.base X.mg cm P) (hcode : X.env.code = .ref cm) (hr : Room 11 X.A) (hg : Gl X "_law_heard") (L : LamX.LamS X.env.scope scope) (hgl : scope.names.lookup ("least_leave" : Str) = some .globalImplicit) (hdef : defaultsOf params X.env = ([], []))
    (hbind : ∀ (q : Str) (cl : List (Str × Addr)) (pm cv ctv : Value), bindArgs (PySem.W.kla_fn "<lambda>" q params (.Call (.Name "least_leave" p1) (e :: es) [] p2) scope cl pm cv ctv) ⟨[], []⟩ = pure [])
    (ha : ∀ (A : Around) (outer : List Env) (s : Shared) (H : Hp) (E : XK) (f c' : Addr), PA (LamX.lamCx X A outer s H E scope f c') (e :: es) t)
    (he : ∀ env, starEach (e :: es) env = (false, eval e env) :: starEach es env) (hpl : ∀ env, (backTo p2 (starEach es env)).any (·.1) = false) :
    PE X (.Call (.Name "_law_heard" p) [.Lambda params (.Call (.Name "least_leave" p1) (e :: es) [] p2) scope lpos] [] pos) (LamX.tLam [(P, qLam)] (THeard X.K) (fun E => tCallR sp E t)) :=
  pe_heard T T2 hq TB hcode hr hg L hdef hbind fun A outer s H E f c' hrl => pe_callR (X := LamX.lamCx X A outer s H E scope f c') F hrl T.gLeast hgl thruL (ha A outer s H E f c') (by decide) (he _) (hpl _)
end
section
variable {P : Program} {w : World} {K : Frag} {mg : Str → Option Value} {base : Heap} {cm PT : Addr}
theorem Pen.put {p c l : Addr} {T0 : Nat} {H : Hp} {o : HO} (PN : Pen H p c T0) (n : l ≠ p) (nc : c ≠ l) : Pen (upd H l o) p c T0 := by
  obtain ⟨cells, tt, g, h1, h2, h3, h4⟩ := PN.ex
  exact ⟨cells, tt, g, (upd_ne n.symm).trans h1, (upd_ne nc).trans h2, h3, h4⟩
theorem tabs_put {l : Addr} {T : List (Addr × Str)} {H : Hp} {o : HO} {xs : List V} (hl : H l = some (.lst xs)) (t : Tabs T H) : Tabs T (upd H l o) := fun x hx => by
  obtain ⟨ps, h1, h2, h3⟩ := t x hx
  refine ⟨ps, (upd_ne (ne_of h1 hl (by intro z; cases z))).trans h1, h2, fun pos cv hc => ?_⟩
  obtain ⟨c', e1, e2⟩ := h3 pos cv hc
  exact ⟨c', e1, (upd_ne (ne_of e2 hl (by intro z; unfold CodeO at z; cases z))).trans e2⟩
theorem TabAt.smT {K : Frag} {H H' : Hp} {p c a : Addr} {T : Nat} {wf : Nat → Int} {b q : Nat} (U : TabAt K H a wf b q) (PN : Pen H p c T) (s : SmT p H H') : TabAt K H' a wf b q := by
  obtain ⟨dx, t, row, h1, h2, h3, h4⟩ := U.at_
  obtain ⟨cells, tt, g, hp, _⟩ := PN.ex
  exact ⟨⟨dx, t, row, s _ _ (ne_of h1 hp (by intro z; cases z)) (fun _ z => by cases z) h1, s _ _ (ne_of h2 hp (by intro z; cases z)) (fun _ z => by cases z) h2, h3, h4⟩, U.q0, U.most⟩
theorem sameR (H : Hp) : Same H H := fun _ _ e => e
theorem kvTup {p a : Addr} {H : Hp} {xs : List V} (n : a ≠ p) (h : H a = some (.tup xs)) : KV p H (.ref a) := .inr (.inr (.inr (.inr ⟨a, _, rfl, n, h, .inr (.inl ⟨_, rfl⟩)⟩)))
theorem kvLst {p a : Addr} {H : Hp} {xs : List V} (n : a ≠ p) (h : H a = some (.lst xs)) : KV p H (.ref a) := .inr (.inr (.inr (.inr ⟨a, _, rfl, n, h, .inl ⟨_, rfl⟩⟩)))
theorem kvD {p a : Addr} {H : Hp} {xs : List (Key × V)} (n : a ≠ p) (h : H a = some (.dK xs)) : KV p H (.ref a) := .inr (.inr (.inr (.inr ⟨a, _, rfl, n, h, .inr (.inr ⟨_, rfl⟩)⟩)))
theorem kvI {p : Addr} {H : Hp} {i : Int} : KV p H (.int i) := .inl ⟨_, rfl⟩
theorem kvB {p : Addr} {H : Hp} {b : Bool} : KV p H (.bl b) := .inr (.inl ⟨_, rfl⟩)
theorem kvN {p : Addr} {H : Hp} : KV p H .non := .inr (.inr (.inl rfl))
theorem kvS {p : Addr} {H : Hp} {z : Str} : KV p H (.str z) := .inr (.inr (.inr (.inl ⟨_, rfl⟩)))
theorem refSize {H : Hp} {sh : Addr} {wf : Nat → Int} {kb kq : Nat} {v vr vm : V} {E : XK} (R : TabAt K H sh wf kb kq) (kv : KdS K H v) (kr : KdS K H vr) (km : KdS K H vm) (hv : okInt v 1 400 = false) (hE : BadS K H E "size") : spLeast K [.ref sh, v, vr, vm] H (fun _ _ => False) E := by
  refine ⟨sh, v, vr, vm, wf, kb, kq, rfl, R, kv, kr, km, fun _ => hE, fun c => ?_, fun _ c => ?_, fun t r m e _ _ t1 t4 _ _ _ _ _ _ => ?_⟩
  · rw [hv] at c; cases c
  · rw [hv] at c; cases c
  · subst e
    have : okInt (.int (t : Int)) 1 400 = true := by simp [okInt]; omega
    rw [hv] at this; cases this
theorem refMod {H : Hp} {sh : Addr} {wf : Nat → Int} {kb kq : Nat} {vr vm : V} {E : XK} (R : TabAt K H sh wf kb kq) (kr : KdS K H vr) (km : KdS K H vm) (hm : okInt vm 1 6 = false) (hE : BadS K H E "modulus") : spLeast K [.ref sh, .int 2, vr, vm] H (fun _ _ => False) E := by
  refine ⟨sh, _, vr, vm, wf, kb, kq, rfl, R, fun _ _ => Kd.int _, kr, km, fun c => absurd c (by decide), fun _ _ => hE, fun _ _ _ c => ?_, fun t r m _ _ e _ _ rm m6 _ _ _ _ => ?_⟩
  · rw [hm] at c; cases c
  · subst e
    have : okInt (.int (m : Int)) 1 6 = true := by simp [okInt]; omega
    rw [hm] at this; cases this
theorem refRest {H : Hp} {sh : Addr} {wf : Nat → Int} {kb kq : Nat} {vr : V} {E : XK} (R : TabAt K H sh wf kb kq) (kr : KdS K H vr) (hr : okInt vr 0 2 = false) (hE : BadS K H E "rest") : spLeast K [.ref sh, .int 2, vr, .int 3] H (fun _ _ => False) E := by
  refine ⟨sh, _, vr, _, wf, kb, kq, rfl, R, fun _ _ => Kd.int _, kr, fun _ _ => Kd.int _, fun c => absurd c (by decide), fun _ c => absurd c (by decide), fun _ _ _ _ _ => hE, fun t r m _ e em _ _ rm _ _ _ _ _ => ?_⟩
  subst e
  have e3 := V.int.inj em
  have : okInt (.int (r : Int)) 0 2 = true := by simp [okInt]; omega
  rw [hr] at this; cases this
theorem ok_refused (T : Txt P K mg) (T2 : Txt2 K cm) (KB : K.In base) (TB : TabB base mg cm PT) : FnR P w K mg base CX0 12 (gA K "_law_refused_right") (spRefused K PT) := by
  intro A outer s H us vs Q E hr e0 r h
  obtain ⟨oc, kV, doc, pm, ct, od, an, osl, lk, hcd⟩ := T2.fn
  obtain ⟨p, c, sh, wf, kb, kq, T0, rfl, PN, hT, R, HT, k⟩ := h
  have hus : us.length = 2 := by rw [← r.length]; rfl
  refine LamX.run_ofS (N := ["_law_pen_here", "_law_sheet", "_law_heard_here", "_law_bad", "_law_odd", "_law_wrong"]) (ps := ["_law_pen_here", "_law_sheet"]) (us := us) lk hcd scRefused hr e0 (BindsTo.of_eq (match us, hus with | [_, _], _ => rfl)) r rfl fun hr' => ?_
  have nd := scRefused.nd
  have hr2 : Room 2 _ := hr'.mono (by decide)
  let X : Cx := cxOf CX0 P w K mg base ["_law_pen_here", "_law_sheet", "_law_heard_here", "_law_bad", "_law_odd", "_law_wrong"] "_law_refused_right" (defScope sRefused) (gA K "_law_refused_right") (.ref cm) A outer s H E
  have b8 : PSs X ((defBody sRefused).drop 7) _ := pss_one (ps_ret (pe_cmpR (op_eqD hr'.units) (pv 2) (pe_lst (pa_cons pe_str (pa_cons pe_str (pa_cons pe_str (pa_cons pe_str pa_nil))))) (nomark _)))
  have b7 : PSs X ((defBody sRefused).drop 6) _ := pss_cons (ps_expr (pe_bm PySem.F.plainAttrs_list PySem.F.slot_list_append PySem.F.type_list_append mt_append (pv 2) (pa_cons (pe_heardL (X := X) (t := (tCons (tVar 1) (tCons (tVar 4) tNil))) T T2 (ok_least2 T KB) rfl TB rfl hr' rfl (LamX.lamS_by (sc := defScope sRefused) (by decide +kernel)) rfl rfl (fun _ _ _ _ _ => rfl) (fun _ _ _ _ _ _ _ => (pa_cons (pv 1) (pa_cons (pv 4) pa_nil))) (fun _ => rfl) (fun _ => rfl)) pa_nil))) b8
  have b6 : PSs X ((defBody sRefused).drop 5) _ := pss_cons (ps_expr (pe_bm PySem.F.plainAttrs_list PySem.F.slot_list_append PySem.F.type_list_append mt_append (pv 2) (pa_cons (pe_heardL (X := X) (t := (tCons (tVar 1) (tCons (tC (.int 2)) (tCons (tVar 3) (tCons (tC (.int 3)) tNil))))) T T2 (ok_least4 T KB) rfl TB rfl hr' rfl (LamX.lamS_by (sc := defScope sRefused) (by decide +kernel)) rfl rfl (fun _ _ _ _ _ => rfl) (fun _ _ _ _ _ _ _ => (pa_cons (pv 1) (pa_cons pe_int (pa_cons (pv 3) (pa_cons pe_int pa_nil))))) (fun _ => rfl) (fun _ => rfl)) pa_nil))) b7
  have b5 : PSs X ((defBody sRefused).drop 4) _ := pss_cons (ps_expr (pe_bm PySem.F.plainAttrs_list PySem.F.slot_list_append PySem.F.type_list_append mt_append (pv 2) (pa_cons (pe_heardL (X := X) (t := (tCons (tVar 1) (tCons (tC (.int 2)) (tCons (tVar 3) (tCons (tVar 5) tNil))))) T T2 (ok_least4 T KB) rfl TB rfl hr' rfl (LamX.lamS_by (sc := defScope sRefused) (by decide +kernel)) rfl rfl (fun _ _ _ _ _ => rfl) (fun _ _ _ _ _ _ _ => (pa_cons (pv 1) (pa_cons pe_int (pa_cons (pv 3) (pa_cons (pv 5) pa_nil))))) (fun _ => rfl) (fun _ => rfl)) pa_nil))) b6
  have b4 : PSs X ((defBody sRefused).drop 3) _ := pss_cons (ps_set (i := 2) nd rfl (Or.inl rfl) (pe_lst (pa_cons (pe_heardL (X := X) (t := (tCons (tVar 1) (tCons (tVar 4) (tCons (tVar 3) (tCons (tVar 5) tNil))))) T T2 (ok_least4 T KB) rfl TB rfl hr' rfl (LamX.lamS_by (sc := defScope sRefused) (by decide +kernel)) rfl rfl (fun _ _ _ _ _ => rfl) (fun _ _ _ _ _ _ _ => (pa_cons (pv 1) (pa_cons (pv 4) (pa_cons (pv 3) (pa_cons (pv 5) pa_nil))))) (fun _ => rfl) (fun _ => rfl)) pa_nil))) b5
  have b3 : PSs X ((defBody sRefused).drop 2) _ := pss_cons (ps_set (i := 3) nd rfl (Or.inr rfl) (pe_callR (ok_pick T) hr2 T.gPick (by rfl) pass0 (pa_cons (pv 0) (pa_cons (pe_lst (pa_cons pe_non (pa_cons pe_bl (pa_cons (pe_un un_neg pe_int) (pa_cons pe_int (pa_cons pe_str (pa_cons (pe_tup (pa_cons pe_int pa_nil)) (pa_cons (pe_lst pa_nil) (pa_cons pe_dnewK (pa_cons (pe_op op_pow pe_int pe_int) pa_nil)))))))))) pa_nil)))) b4
  have b2 : PSs X ((defBody sRefused).drop 1) _ := pss_cons (ps_set (i := 5) nd rfl (Or.inr rfl) (pe_callR (ok_pick T) hr2 T.gPick (by rfl) pass0 (pa_cons (pv 0) (pa_cons (pe_lst (pa_cons pe_non (pa_cons pe_bl (pa_cons pe_int (pa_cons (pe_un un_neg pe_int) (pa_cons pe_int (pa_cons pe_str (pa_cons (pe_tup (pa_cons pe_int pa_nil)) (pa_cons (pe_lst pa_nil) (pa_cons pe_dnewK pa_nil)))))))))) pa_nil)))) b3
  have b1 : PSs X (defBody sRefused) _ := pss_cons (ps_set (i := 4) nd rfl (Or.inr rfl) (pe_callR (ok_pick T) hr2 T.gPick (by rfl) pass0 (pa_cons (pv 0) (pa_cons (pe_lst (pa_cons pe_non (pa_cons pe_bl (pa_cons pe_int (pa_cons (pe_un un_neg pe_int) (pa_cons pe_int (pa_cons pe_str (pa_cons (pe_tup (pa_cons pe_int pa_nil)) (pa_cons (pe_lst pa_nil) (pa_cons pe_dnewK (pa_cons (pe_op op_pow pe_int pe_int) pa_nil))))))))))) pa_nil)))) b2
  refine ⟨_, b1, ?_⟩
  -- three values
  refine ⟨_, rfl, _, rfl, (by show 1 ≤ sizeLine; decide), fun t1 ht1 => ⟨Nat.zero_le _, fun l1 hl1 => fun d1 hd1 => ⟨_, _, rfl, rfl, ⟨by decide, by decide, by decide⟩, (by show 10 ≤ sizeLine; decide), fun L1 hL1 => ?_⟩⟩⟩
  have a11 := same_upd (o := .tup [.int 1]) (sameR H) ht1
  have a12 := same_upd (o := .lst []) a11 hl1
  have a13 := same_upd (o := .dK []) a12 hd1
  have a14 := same_upd (o := .lst [.non, .bl true, .int 0, .int (-1), .int 401, .str "1", .ref t1, .ref l1, .ref d1, .int (10 ^ Int.toNat 39)]) a13 hL1
  have b11 := newNe PN ht1
  have b12 := newNe (PN.same a11) hl1
  have b13 := newNe (PN.same a12) hd1
  have b14 := newNe (PN.same a13) hL1
  have q11 := same_upd (o := .lst [.non, .bl true, .int 0, .int (-1), .int 401, .str "1", .ref t1, .ref l1, .ref d1, .int (10 ^ Int.toNat 39)]) (same_upd (o := .dK []) (same_upd (o := .lst []) (sameR _) hl1) hd1) hL1 t1 _ upd_same
  have q12 := same_upd (o := .lst [.non, .bl true, .int 0, .int (-1), .int 401, .str "1", .ref t1, .ref l1, .ref d1, .int (10 ^ Int.toNat 39)]) (same_upd (o := .dK []) (sameR _) hd1) hL1 l1 _ upd_same
  have q13 := same_upd (o := .lst [.non, .bl true, .int 0, .int (-1), .int 401, .str "1", .ref t1, .ref l1, .ref d1, .int (10 ^ Int.toNat 39)]) (sameR _) hL1 d1 _ upd_same
  refine ⟨p, c, L1, [.non, .bl true, .int 0, .int (-1), .int 401, .str "1", .ref t1, .ref l1, .ref d1, .int (10 ^ Int.toNat 39)], T0, rfl, upd_same, b14, by simp, by simp, PN.same a14, by omega, fun i1 v1 H1 hv1 s1 P1 => ?_⟩
  have w1 : KV p H1 v1 ∧ okInt v1 1 400 = false := by
    match i1, hv1 with
    | 0, hv => have e := (Option.some.inj hv).symm; exact ⟨by rw [e]; exact KV.smT kvN (smT_of s1), by rw [e]; first | rfl | decide⟩
    | 1, hv => have e := (Option.some.inj hv).symm; exact ⟨by rw [e]; exact KV.smT kvB (smT_of s1), by rw [e]; first | rfl | decide⟩
    | 2, hv => have e := (Option.some.inj hv).symm; exact ⟨by rw [e]; exact KV.smT kvI (smT_of s1), by rw [e]; first | rfl | decide⟩
    | 3, hv => have e := (Option.some.inj hv).symm; exact ⟨by rw [e]; exact KV.smT kvI (smT_of s1), by rw [e]; first | rfl | decide⟩
    | 4, hv => have e := (Option.some.inj hv).symm; exact ⟨by rw [e]; exact KV.smT kvI (smT_of s1), by rw [e]; first | rfl | decide⟩
    | 5, hv => have e := (Option.some.inj hv).symm; exact ⟨by rw [e]; exact KV.smT kvS (smT_of s1), by rw [e]; first | rfl | decide⟩
    | 6, hv => have e := (Option.some.inj hv).symm; exact ⟨by rw [e]; exact KV.smT (kvTup b11 q11) (smT_of s1), by rw [e]; first | rfl | decide⟩
    | 7, hv => have e := (Option.some.inj hv).symm; exact ⟨by rw [e]; exact KV.smT (kvLst b12 q12) (smT_of s1), by rw [e]; first | rfl | decide⟩
    | 8, hv => have e := (Option.some.inj hv).symm; exact ⟨by rw [e]; exact KV.smT (kvD b13 q13) (smT_of s1), by rw [e]; first | rfl | decide⟩
    | 9, hv => have e := (Option.some.inj hv).symm; exact ⟨by rw [e]; exact KV.smT kvI (smT_of s1), by rw [e]; first | rfl | decide⟩
    | j + 10, hv => simp at hv
  have R1 := (R.same a14).smB (PN.same a14) s1
  have HT1 := tabs_smB (PN.same a14) s1 (HT.ext a14)
  have m1 : SmT p H H1 := (smT_of (smB_of a14)).trans (smT_of s1)
  clear q11 q12 q13 s1 a14 a13 a12 a11 b11 b12 b13 b14
  refine ⟨_, rfl, _, rfl, (by show 1 ≤ sizeLine; decide), fun t2 ht2 => ⟨Nat.zero_le _, fun l2 hl2 => fun d2 hd2 => ⟨(by show 9 ≤ sizeLine; decide), fun L2 hL2 => ?_⟩⟩⟩
  have a21 := same_upd (o := .tup [.int 1]) (sameR H1) ht2
  have a22 := same_upd (o := .lst []) a21 hl2
  have a23 := same_upd (o := .dK []) a22 hd2
  have a24 := same_upd (o := .lst [.non, .bl true, .int 0, .int (-1), .int 7, .str "1", .ref t2, .ref l2, .ref d2]) a23 hL2
  have b21 := newNe P1 ht2
  have b22 := newNe (P1.same a21) hl2
  have b23 := newNe (P1.same a22) hd2
  have b24 := newNe (P1.same a23) hL2
  have q21 := same_upd (o := .lst [.non, .bl true, .int 0, .int (-1), .int 7, .str "1", .ref t2, .ref l2, .ref d2]) (same_upd (o := .dK []) (same_upd (o := .lst []) (sameR _) hl2) hd2) hL2 t2 _ upd_same
  have q22 := same_upd (o := .lst [.non, .bl true, .int 0, .int (-1), .int 7, .str "1", .ref t2, .ref l2, .ref d2]) (same_upd (o := .dK []) (sameR _) hd2) hL2 l2 _ upd_same
  have q23 := same_upd (o := .lst [.non, .bl true, .int 0, .int (-1), .int 7, .str "1", .ref t2, .ref l2, .ref d2]) (sameR _) hL2 d2 _ upd_same
  refine ⟨p, c, L2, [.non, .bl true, .int 0, .int (-1), .int 7, .str "1", .ref t2, .ref l2, .ref d2], T0 + 1, rfl, upd_same, b24, by simp, by simp, P1.same a24, by omega, fun i2 v2 H2 hv2 s2 P2 => ?_⟩
  have w2 : KV p H2 v2 ∧ okInt v2 1 6 = false := by
    match i2, hv2 with
    | 0, hv => have e := (Option.some.inj hv).symm; exact ⟨by rw [e]; exact KV.smT kvN (smT_of s2), by rw [e]; first | rfl | decide⟩
    | 1, hv => have e := (Option.some.inj hv).symm; exact ⟨by rw [e]; exact KV.smT kvB (smT_of s2), by rw [e]; first | rfl | decide⟩
    | 2, hv => have e := (Option.some.inj hv).symm; exact ⟨by rw [e]; exact KV.smT kvI (smT_of s2), by rw [e]; first | rfl | decide⟩
    | 3, hv => have e := (Option.some.inj hv).symm; exact ⟨by rw [e]; exact KV.smT kvI (smT_of s2), by rw [e]; first | rfl | decide⟩
    | 4, hv => have e := (Option.some.inj hv).symm; exact ⟨by rw [e]; exact KV.smT kvI (smT_of s2), by rw [e]; first | rfl | decide⟩
    | 5, hv => have e := (Option.some.inj hv).symm; exact ⟨by rw [e]; exact KV.smT kvS (smT_of s2), by rw [e]; first | rfl | decide⟩
    | 6, hv => have e := (Option.some.inj hv).symm; exact ⟨by rw [e]; exact KV.smT (kvTup b21 q21) (smT_of s2), by rw [e]; first | rfl | decide⟩
    | 7, hv => have e := (Option.some.inj hv).symm; exact ⟨by rw [e]; exact KV.smT (kvLst b22 q22) (smT_of s2), by rw [e]; first | rfl | decide⟩
    | 8, hv => have e := (Option.some.inj hv).symm; exact ⟨by rw [e]; exact KV.smT (kvD b23 q23) (smT_of s2), by rw [e]; first | rfl | decide⟩
    | j + 9, hv => simp at hv
  have R2 := (R1.same a24).smB (P1.same a24) s2
  have HT2 := tabs_smB (P1.same a24) s2 (HT1.ext a24)
  have m2 : SmT p H1 H2 := (smT_of (smB_of a24)).trans (smT_of s2)
  clear q21 q22 q23 s2 a24 a23 a22 a21 b21 b22 b23 b24
  refine ⟨_, rfl, _, rfl, (by show 1 ≤ sizeLine; decide), fun t3 ht3 => ⟨Nat.zero_le _, fun l3 hl3 => fun d3 hd3 => ⟨_, _, rfl, rfl, ⟨by decide, by decide, by decide⟩, (by show 9 ≤ sizeLine; decide), fun L3 hL3 => ?_⟩⟩⟩
  have a31 := same_upd (o := .tup [.int 0]) (sameR H2) ht3
  have a32 := same_upd (o := .lst []) a31 hl3
  have a33 := same_upd (o := .dK []) a32 hd3
  have a34 := same_upd (o := .lst [.non, .bl false, .int (-1), .int 3, .str "0", .ref t3, .ref l3, .ref d3, .int (10 ^ Int.toNat 30)]) a33 hL3
  have b31 := newNe P2 ht3
  have b32 := newNe (P2.same a31) hl3
  have b33 := newNe (P2.same a32) hd3
  have b34 := newNe (P2.same a33) hL3
  have q31 := same_upd (o := .lst [.non, .bl false, .int (-1), .int 3, .str "0", .ref t3, .ref l3, .ref d3, .int (10 ^ Int.toNat 30)]) (same_upd (o := .dK []) (same_upd (o := .lst []) (sameR _) hl3) hd3) hL3 t3 _ upd_same
  have q32 := same_upd (o := .lst [.non, .bl false, .int (-1), .int 3, .str "0", .ref t3, .ref l3, .ref d3, .int (10 ^ Int.toNat 30)]) (same_upd (o := .dK []) (sameR _) hd3) hL3 l3 _ upd_same
  have q33 := same_upd (o := .lst [.non, .bl false, .int (-1), .int 3, .str "0", .ref t3, .ref l3, .ref d3, .int (10 ^ Int.toNat 30)]) (sameR _) hL3 d3 _ upd_same
  refine ⟨p, c, L3, [.non, .bl false, .int (-1), .int 3, .str "0", .ref t3, .ref l3, .ref d3, .int (10 ^ Int.toNat 30)], T0 + 2, rfl, upd_same, b34, by simp, by simp, P2.same a34, by omega, fun i3 v3 H3 hv3 s3 P3 => ?_⟩
  have w3 : KV p H3 v3 ∧ okInt v3 0 2 = false := by
    match i3, hv3 with
    | 0, hv => have e := (Option.some.inj hv).symm; exact ⟨by rw [e]; exact KV.smT kvN (smT_of s3), by rw [e]; first | rfl | decide⟩
    | 1, hv => have e := (Option.some.inj hv).symm; exact ⟨by rw [e]; exact KV.smT kvB (smT_of s3), by rw [e]; first | rfl | decide⟩
    | 2, hv => have e := (Option.some.inj hv).symm; exact ⟨by rw [e]; exact KV.smT kvI (smT_of s3), by rw [e]; first | rfl | decide⟩
    | 3, hv => have e := (Option.some.inj hv).symm; exact ⟨by rw [e]; exact KV.smT kvI (smT_of s3), by rw [e]; first | rfl | decide⟩
    | 4, hv => have e := (Option.some.inj hv).symm; exact ⟨by rw [e]; exact KV.smT kvS (smT_of s3), by rw [e]; first | rfl | decide⟩
    | 5, hv => have e := (Option.some.inj hv).symm; exact ⟨by rw [e]; exact KV.smT (kvTup b31 q31) (smT_of s3), by rw [e]; first | rfl | decide⟩
    | 6, hv => have e := (Option.some.inj hv).symm; exact ⟨by rw [e]; exact KV.smT (kvLst b32 q32) (smT_of s3), by rw [e]; first | rfl | decide⟩
    | 7, hv => have e := (Option.some.inj hv).symm; exact ⟨by rw [e]; exact KV.smT (kvD b33 q33) (smT_of s3), by rw [e]; first | rfl | decide⟩
    | 8, hv => have e := (Option.some.inj hv).symm; exact ⟨by rw [e]; exact KV.smT kvI (smT_of s3), by rw [e]; first | rfl | decide⟩
    | j + 9, hv => simp at hv
  have R3 := (R2.same a34).smB (P2.same a34) s3
  have HT3 := tabs_smB (P2.same a34) s3 (HT2.ext a34)
  have m3 : SmT p H2 H3 := (smT_of (smB_of a34)).trans (smT_of s3)
  clear q31 q32 q33 s3 a34 a33 a32 a31 b31 b32 b33 b34
  have k1 : KV p H3 v1 := (w1.1.smT m2).smT m3
  have k2 : KV p H3 v2 := w2.1.smT m3
  have k3 : KV p H3 v3 := w3.1
  have o1 := w1.2
  have o2 := w2.2
  have o3 := w3.2
  have m03 : SmT p H H3 := m1.trans (m2.trans m3)
  -- the first: size
  refine ⟨HT3, fun H4 e4 HT4 => ?_⟩
  have R4 := R3.ext e4
  have P4 := P3.ext e4
  refine ⟨_, rfl, _, rfl, _, rfl, _, rfl, ?_⟩
  dsimp only [tNil]
  refine refSize R4 (k1.smT (smT_ext e4)).kd (k3.smT (smT_ext e4)).kd (k2.smT (smT_ext e4)).kd o1 fun dd H5 s5 _ h5 => ⟨rfl, dd, _, rfl, h5, (by show 1 ≤ sizeLine; decide), fun l0 hl0 => ?_⟩
  have n0 := newNe (P4.same s5) hl0
  have m35 : SmT p H3 H5 := (smT_ext e4).trans (smT_of (smB_of s5))
  have off : ∀ b o, b ≠ p → (∀ ps, o ≠ HO.tbl ps) → H3 b = some o → b ≠ l0 := fun b o hb hn e q => by
    have z := m35 b o hb hn e
    rw [q, hl0] at z
    cases z
  have putM : ∀ {G : Hp} {o : HO}, SmT p H3 G → SmT p H3 (upd G l0 o) := fun m b o hb hn e => (upd_ne (off b o hb hn e)).trans (m b o hb hn e)
  have nc : c ≠ l0 := by
    obtain ⟨cells, tt, g, hp, hc, _⟩ := P3.ex
    exact off c _ (Pen.ne hp hc) (fun _ z => by cases z) hc
  have s6 := same_upd (o := .lst [.str "size"]) s5 hl0
  have hl6 : upd H5 l0 (.lst [.str "size"]) l0 = some (.lst [.str "size"]) := upd_same
  have P6 := P4.same s6
  have HT6 : Tabs [(PT, qLam)] _ := HT4.ext s6
  have m36 : SmT p H3 (upd H5 l0 (.lst [.str "size"])) := putM m35
  generalize upd H5 l0 (.lst [.str "size"]) = H6 at hl6 P6 HT6 m36
  -- the next
  refine ⟨_, rfl, .inl ⟨rfl, _, SqL.of hl6⟩, HT6, fun H7 e7 HT7 => ?_⟩
  have P7 := P6.ext e7
  have m37 := m36.trans (smT_ext (p := p) e7)
  have R7 := R3.smT P3 m37
  refine ⟨_, rfl, _, rfl, _, rfl, ?_⟩
  dsimp only [tNil]
  refine refMod R7 (k3.smT m37).kd (k2.smT m37).kd o2 fun dd H8 s8 _ h8 => ⟨rfl, dd, _, rfl, h8, ?_⟩
  have hl8 := s8 _ _ (e7 _ _ hl6 (fun _ z => by cases z))
  have m8 := m37.trans (smT_of (smB_of s8))
  refine ⟨l0, _, _, rfl, rfl, hl8, (by show 1 < sizeLine; decide), ?_⟩
  have hl9 : upd H8 l0 (.lst ([.str "size"] ++ [.str "modulus"])) l0 = some (.lst [.str "size", .str "modulus"]) := upd_same
  have P9 := (P7.same s8).put (o := .lst ([.str "size"] ++ [.str "modulus"])) n0 nc
  have HT9 : Tabs [(PT, qLam)] _ := tabs_put (o := .lst ([.str "size"] ++ [.str "modulus"])) hl8 (HT7.ext s8)
  have m39 := putM (o := .lst ([.str "size"] ++ [.str "modulus"])) m8
  dsimp only
  generalize upd H8 l0 (.lst ([.str "size"] ++ [.str "modulus"])) = H9 at hl9 P9 HT9 m39
  -- the next
  refine ⟨_, rfl, .inl ⟨rfl, _, SqL.of hl9⟩, HT9, fun H10 e10 HT10 => ?_⟩
  have P10 := P9.ext e10
  have m310 := m39.trans (smT_ext (p := p) e10)
  have R10 := R3.smT P3 m310
  refine ⟨_, rfl, _, rfl, ?_⟩
  dsimp only [tNil]
  refine refRest R10 (k3.smT m310).kd o3 fun dd H11 s11 _ h11 => ⟨rfl, dd, _, rfl, h11, ?_⟩
  have hl11 := s11 _ _ (e10 _ _ hl9 (fun _ z => by cases z))
  have m11 := m310.trans (smT_of (smB_of s11))
  refine ⟨l0, _, _, rfl, rfl, hl11, (by show 2 < sizeLine; decide), ?_⟩
  have hl12 : upd H11 l0 (.lst ([.str "size", .str "modulus"] ++ [.str "rest"])) l0 = some (.lst [.str "size", .str "modulus", .str "rest"]) := upd_same
  have P12 := (P10.same s11).put (o := .lst ([.str "size", .str "modulus"] ++ [.str "rest"])) n0 nc
  have HT12 : Tabs [(PT, qLam)] _ := tabs_put (o := .lst ([.str "size", .str "modulus"] ++ [.str "rest"])) hl11 (HT10.ext s11)
  have m312 := putM (o := .lst ([.str "size", .str "modulus"] ++ [.str "rest"])) m11
  dsimp only
  generalize upd H11 l0 (.lst ([.str "size", .str "modulus"] ++ [.str "rest"])) = H12 at hl12 P12 HT12 m312
  -- the next
  refine ⟨_, rfl, .inl ⟨rfl, _, SqL.of hl12⟩, HT12, fun H13 e13 HT13 => ?_⟩
  have P13 := P12.ext e13
  have m313 := m312.trans (smT_ext (p := p) e13)
  have R13 := R3.smT P3 m313
  refine ⟨_, rfl, _, rfl, ?_⟩
  dsimp only [tNil]
  show spLeast K [.ref sh, v1, .int 0, .int 1] H13 _ _
  refine refSize R13 (k1.smT m313).kd (fun _ _ => Kd.int _) (fun _ _ => Kd.int _) o1 fun dd H14 s14 _ h14 => ⟨rfl, dd, _, rfl, h14, ?_⟩
  have hl14 := s14 _ _ (e13 _ _ hl12 (fun _ z => by cases z))
  have m14 := m313.trans (smT_of (smB_of s14))
  refine ⟨l0, _, _, rfl, rfl, hl14, (by show 3 < sizeLine; decide), ?_⟩
  have hl15 : upd H14 l0 (.lst ([.str "size", .str "modulus", .str "rest"] ++ [.str "size"])) l0 = some (.lst [.str "size", .str "modulus", .str "rest", .str "size"]) := upd_same
  have P15 := (P13.same s14).put (o := .lst ([.str "size", .str "modulus", .str "rest"] ++ [.str "size"])) n0 nc
  have HT15 : Tabs [(PT, qLam)] _ := tabs_put (o := .lst ([.str "size", .str "modulus", .str "rest"] ++ [.str "size"])) hl14 (HT13.ext s14)
  have m315 := putM (o := .lst ([.str "size", .str "modulus", .str "rest"] ++ [.str "size"])) m14
  dsimp only
  generalize upd H14 l0 (.lst ([.str "size", .str "modulus", .str "rest"] ++ [.str "size"])) = H15 at hl15 P15 HT15 m315
  refine ⟨_, rfl, (by show 4 ≤ sizeLine; decide), fun lz hlz => ?_⟩
  have sz := same_upd (o := .lst [.str "size", .str "modulus", .str "rest", .str "size"]) (sameR H15) hlz
  have hz := sz _ _ hl15
  refine ⟨.list [.str "size", .str "modulus", .str "rest", .str "size"], .list [.str "size", .str "modulus", .str "rest", .str "size"], .lst (SqL.of hz) (.cons (.str _) (.cons (.str _) (.cons (.str _) (.cons (.str _) .nil)))), .lst (SqL.of upd_same) (.cons (.str _) (.cons (.str _) (.cons (.str _) (.cons (.str _) .nil)))), by decide +kernel, by decide +kernel, ?_⟩
  rw [show PyData.eqv (.list [.str "size", .str "modulus", .str "rest", .str "size"]) (.list [.str "size", .str "modulus", .str "rest", .str "size"]) = true by decide +kernel]
  exact k _ (m03.trans (m315.trans (smT_of (smB_of sz)))) (P15.same sz) (HT15.ext sz)
end
end FT
/-! The two told tables of the law's end. Plain Lean. -/
namespace FTM
def rowF : List Int := List.replicate 900 0 ++ [1, 2]
def rowL : List Int := [0, 0, 0, 1]
theorem wG_low {k n : Nat} (h : n < k) : tw (List.replicate k (0 : Int) ++ [1, 2]) k 2 n = 0 := by
  unfold tw
  rw [if_pos h]
  simp only [List.getD]
  rw [List.getElem?_append_left (by simpa using h), List.getElem?_replicate, if_pos h]
  rfl
theorem wG_even {k n : Nat} (h : k ≤ n) (e : (n - k) % 2 = 0) : tw (List.replicate k (0 : Int) ++ [1, 2]) k 2 n = 1 := by
  unfold tw
  rw [if_neg (by omega), e]
  simp only [List.getD]
  rw [List.getElem?_append_right (by simp), List.length_replicate, Nat.add_zero, Nat.sub_self]
  rfl
theorem wG_odd {k n : Nat} (h : k ≤ n) (e : (n - k) % 2 = 1) : tw (List.replicate k (0 : Int) ++ [1, 2]) k 2 n = 2 := by
  unfold tw
  rw [if_neg (by omega), e]
  simp only [List.getD]
  rw [List.getElem?_append_right (by simp), List.length_replicate, Nat.add_sub_cancel_left]
  rfl
theorem wF_low {n : Nat} (h : n < 900) : tw rowF 900 2 n = 0 := wG_low h
theorem wF_even {n : Nat} (h : 900 ≤ n) (e : (n - 900) % 2 = 0) : tw rowF 900 2 n = 1 := wG_even h e
theorem wF_odd {n : Nat} (h : 900 ≤ n) (e : (n - 900) % 2 = 1) : tw rowF 900 2 n = 2 := wG_odd h e
theorem wF_cases (n : Nat) : (n < 900 ∧ tw rowF 900 2 n = 0) ∨ (900 ≤ n ∧ (n - 900) % 2 = 0 ∧ tw rowF 900 2 n = 1) ∨ (900 ≤ n ∧ (n - 900) % 2 = 1 ∧ tw rowF 900 2 n = 2) := by
  rcases Nat.lt_or_ge n 900 with c | c
  · exact .inl ⟨c, wF_low c⟩
  · rcases Nat.mod_two_eq_zero_or_one (n - 900) with e | e
    · exact .inr (.inl ⟨c, e, wF_even c e⟩)
    · exact .inr (.inr ⟨c, e, wF_odd c e⟩)
theorem leave_F1 : IsLeave (tw rowF 900 2) 1 0 1 (some 899) := by
  refine ⟨fun n ⟨h1, h2, h3⟩ => ?_, .inr ⟨by decide, by decide, ?_⟩⟩
  · rcases wF_cases n with ⟨a, b⟩ | ⟨a, b, d⟩ | ⟨a, b, d⟩
    · omega
    · rcases wF_cases (n - 1) with ⟨a', b'⟩ | ⟨a', b', d'⟩ | ⟨a', b', d'⟩ <;> rw [d] at h3 <;> first | (rw [b'] at h3; omega) | (rw [d'] at h3; omega) | omega
    · rcases wF_cases (n - 1) with ⟨a', b'⟩ | ⟨a', b', d'⟩ | ⟨a', b', d'⟩ <;> rw [d] at h3 <;> first | (rw [b'] at h3; omega) | (rw [d'] at h3; omega) | omega
  · rw [wF_low (by decide), wF_low (by decide)]
theorem leave_F3 : IsLeave (tw rowF 900 2) 3 0 1 (some 897) := by
  refine ⟨fun n ⟨h1, h2, h3⟩ => ?_, .inr ⟨by decide, by decide, ?_⟩⟩
  · rcases wF_cases n with ⟨a, b⟩ | ⟨a, b, d⟩ | ⟨a, b, d⟩
    · omega
    · rcases wF_cases (n - 3) with ⟨a', b'⟩ | ⟨a', b', d'⟩ | ⟨a', b', d'⟩ <;> rw [d] at h3 <;> first | (rw [b'] at h3; omega) | (rw [d'] at h3; omega) | omega
    · rcases wF_cases (n - 3) with ⟨a', b'⟩ | ⟨a', b', d'⟩ | ⟨a', b', d'⟩ <;> rw [d] at h3 <;> first | (rw [b'] at h3; omega) | (rw [d'] at h3; omega) | omega
  · rw [wF_low (by decide), wF_low (by decide)]
theorem leave_F2 : IsLeave (tw rowF 900 2) 2 0 1 none := fun N => by
  refine ⟨902 + 2 * N, by omega, by omega, by omega, ?_⟩
  rw [wF_even (by omega) (by omega), wF_even (by omega) (by omega)]
theorem leave_F12 : IsLeave (tw rowF 900 2) 1 0 2 (some 898) := by
  refine ⟨fun n ⟨h1, h2, h3⟩ => ?_, .inr ⟨by decide, by decide, ?_⟩⟩
  · rcases wF_cases n with ⟨a, b⟩ | ⟨a, b, d⟩ | ⟨a, b, d⟩
    · omega
    · rcases wF_cases (n - 1) with ⟨a', b'⟩ | ⟨a', b', d'⟩ | ⟨a', b', d'⟩ <;> rw [d] at h3 <;> first | (rw [b'] at h3; omega) | (rw [d'] at h3; omega) | omega
    · rcases wF_cases (n - 1) with ⟨a', b'⟩ | ⟨a', b', d'⟩ | ⟨a', b', d'⟩ <;> rw [d] at h3 <;> first | (rw [b'] at h3; omega) | (rw [d'] at h3; omega) | omega
  · rw [wF_low (by decide), wF_low (by decide)]
theorem wL_cases (n : Nat) : (n = 0 ∧ tw rowL 2 2 n = 0) ∨ (n = 1 ∧ tw rowL 2 2 n = 0) ∨ (2 ≤ n ∧ n % 2 = 0 ∧ tw rowL 2 2 n = 0) ∨ (2 ≤ n ∧ n % 2 = 1 ∧ tw rowL 2 2 n = 1) := by
  rcases Nat.lt_or_ge n 2 with c | c
  · match n, c with
    | 0, _ => exact .inl ⟨rfl, rfl⟩
    | 1, _ => exact .inr (.inl ⟨rfl, rfl⟩)
  · have h : tw rowL 2 2 n = rowL.getD (2 + (n - 2) % 2) 0 := by unfold tw; rw [if_neg (by omega)]
    rcases Nat.mod_two_eq_zero_or_one n with e | e
    · have e2 : (n - 2) % 2 = 0 := by omega
      exact .inr (.inr (.inl ⟨c, e, by rw [h, e2]; rfl⟩))
    · have e2 : (n - 2) % 2 = 1 := by omega
      exact .inr (.inr (.inr ⟨c, e, by rw [h, e2]; rfl⟩))
theorem leave_L1 : IsLeave (tw rowL 2 2) 1 0 1 (some 2) := by
  refine ⟨fun n ⟨h1, h2, h3⟩ => ?_, .inr ⟨by decide, by decide, by decide⟩⟩
  rcases wL_cases n with ⟨a, b⟩ | ⟨a, b⟩ | ⟨a, b, d⟩ | ⟨a, b, d⟩
  · omega
  · omega
  · rcases wL_cases (n - 1) with ⟨a', b'⟩ | ⟨a', b'⟩ | ⟨a', b', d'⟩ | ⟨a', b', d'⟩ <;> first | omega | (rw [d, d'] at h3; omega)
  · rcases wL_cases (n - 1) with ⟨a', b'⟩ | ⟨a', b'⟩ | ⟨a', b', d'⟩ | ⟨a', b', d'⟩ <;> first | omega | (rw [d, d'] at h3; omega)
theorem leave_Leven {t : Nat} (h : t % 2 = 0) : IsLeave (tw rowL 2 2) t 0 1 none := fun N => by
  refine ⟨t + 2 + 2 * N, by omega, by omega, by omega, ?_⟩
  rcases wL_cases (t + 2 + 2 * N) with ⟨a, b⟩ | ⟨a, b⟩ | ⟨a, b, d⟩ | ⟨a, b, d⟩
  · omega
  · omega
  · rcases wL_cases (t + 2 + 2 * N - t) with ⟨a', b'⟩ | ⟨a', b'⟩ | ⟨a', b', d'⟩ | ⟨a', b', d'⟩ <;> first | omega | rw [d, d']
  · omega
theorem leave_L3 : IsLeave (tw rowL 2 2) 3 0 2 (some 2) := by
  refine ⟨fun n ⟨h1, h2, h3⟩ => ?_, .inr ⟨by decide, by decide, by decide⟩⟩
  rcases wL_cases n with ⟨a, b⟩ | ⟨a, b⟩ | ⟨a, b, d⟩ | ⟨a, b, d⟩
  · omega
  · omega
  · rcases wL_cases (n - 3) with ⟨a', b'⟩ | ⟨a', b'⟩ | ⟨a', b', d'⟩ | ⟨a', b', d'⟩ <;> first | omega | (rw [d, d'] at h3; omega)
  · omega
end FTM
/-! The walk: the law. -/
namespace FT
open StX (pe_makeR)
open PySem PySem.Spec PyProof.Rows L2 FTM FTG
open PySem.W (Frag)
open LamX (Tabs TabS ExtN TabB CodeO)
theorem scLaw : FnScope ["_law_script", "_law_pen_here", "_law_lap", "_law_told_here", "_law_sheet", "_law_far", "_law_some", "_law_late", "_law_turn"] ["_law_script"] (defScope sLaw) := ⟨rfl, rfl, rfl, by decide +kernel, rfl, by decide +kernel, by decide +kernel⟩
def spLaw (K : Frag) (P : Addr) : Sp := fun vs H Q _ => ∃ (a : Addr) (ns : List Int), vs = [.ref a] ∧ SqL K H a (ns.map V.int) ∧ Tabs [(P, qLam)] H ∧ ∀ H', Q (.bl true) H'
theorem rowF_len : rowF.length = 900 + 2 := by
  unfold rowF
  rw [List.length_append, List.length_replicate]
  rfl
theorem rowF_0 : rowF[0]? = some 0 := by
  unfold rowF
  rw [List.getElem?_append_left (by rw [List.length_replicate]; decide), List.getElem?_replicate, if_pos (by decide)]
theorem rowF_ok : ∀ z ∈ rowF, 0 ≤ z ∧ z ≤ 400 := fun z hz => by
  unfold rowF at hz
  rcases List.mem_append.mp hz with h | h
  · rw [(List.mem_replicate.mp h).2]; decide
  · rcases List.mem_cons.mp h with h | h
    · rw [h]; decide
    · rw [List.mem_singleton.mp h]; decide
theorem rowF_map : (List.replicate 900 [V.int 0]).flatten ++ [V.int 1, V.int 2] = rowF.map V.int := by
  unfold rowF
  rw [List.map_append, List.map_replicate, List.flatten_replicate_singleton]
  rfl
section
variable {P : Program} {w : World} {K : Frag} {mg : Str → Option Value} {base : Heap} {cm PT : Addr}
theorem ok_lawF (T : Txt P K mg) (T2 : Txt2 K cm) (KB : K.In base) (TB : TabB base mg cm PT) {fd : FuncData} (F : FunD K "law" "law" (defArgs sLaw) (defBody sLaw) (defScope sLaw) [] [] (gA K "law") fd) :
    FnOk P w K mg base CX0 14 (gA K "law") fd ["_law_script"] (spLaw K PT) := by
  refine F.ok scLaw (fun vs H Q E h => ?_) (fun cdv A outer s H vs Q E hr h => ?_)
  · obtain ⟨_, _, rfl, _⟩ := h
    rfl
  obtain ⟨a, ns, rfl, ha, HT, k⟩ := h
  have nd := scLaw.nd
  have hr1 : Room 1 _ := hr.mono (by decide)
  have hr3 : Room 3 _ := hr.mono (by decide)
  have hr4 : Room 4 _ := hr.mono (by decide)
  have hr9 : Room 9 _ := hr.mono (by decide)
  have hr11 : Room 11 _ := hr.mono (by decide)
  have hr12 : Room 12 _ := hr.mono (by decide)
  let X : Cx := (cxOf CX0 P w K mg base ["_law_script", "_law_pen_here", "_law_lap", "_law_told_here", "_law_sheet", "_law_far", "_law_some", "_law_late", "_law_turn"] "law" (defScope sLaw) (gA K "law") cdv A outer s H E).nox
  have c8 : PSs X ((defBody sLaw).drop 7) _ := pss_one (ps_ret (pe_cmpR (op_eqD hr.units) (pv 6) (pe_lst (pa_cons pe_int (pa_cons pe_non (pa_cons pe_int (pa_cons pe_non pa_nil))))) (nomark _)))
  have c7 : PSs X ((defBody sLaw).drop 6) _ := pss_cons (ps_set (i := 6) nd rfl (Or.inl rfl) (pe_lst (pa_cons (pe_callR (ok_least2 T KB) hr9 T.gLeast (by rfl) passL (pa_cons (pv 7) (pa_cons pe_int pa_nil))) (pa_cons (pe_callR (ok_least2 T KB) hr9 T.gLeast (by rfl) passL (pa_cons (pv 7) (pa_cons pe_int pa_nil)))
    (pa_cons (pe_callR (ok_least4 T KB) hr9 T.gLeast (by rfl) passL (pa_cons (pv 7) (pa_cons pe_int (pa_cons pe_int (pa_cons pe_int pa_nil))))) (pa_cons (pe_callR (ok_least2 T KB) hr9 T.gLeast (by rfl) passL (pa_cons (pv 7) (pa_cons pe_int pa_nil))) pa_nil)))))) c8
  have c6 : PSs X ((defBody sLaw).drop 5) _ := pss_cons (ps_set (i := 7) nd rfl (Or.inl rfl) (pe_makeR T.mkTable (ok_tinit T) hr4 (by rfl) T.mgTable pass0 (pa_cons pe_int (pa_cons pe_int (pa_cons (pe_lst (pa_cons pe_int (pa_cons pe_int (pa_cons pe_int (pa_cons pe_int pa_nil))))) pa_nil))))) c7
  have c5 : PSs X ((defBody sLaw).drop 4) _ := pss_cons (ps_if (pt_cmpR (op_neD hr.units) (pv 6) (pe_lst (pa_cons pe_int (pa_cons pe_int (pa_cons pe_non (pa_cons pe_int pa_nil))))) (nomark _)) pss_never pss_nil) c6
  have c4 : PSs X ((defBody sLaw).drop 3) _ := pss_cons (ps_set (i := 6) nd rfl (Or.inl rfl) (pe_lst (pa_cons (pe_callR (ok_least2 T KB) hr9 T.gLeast (by rfl) passL (pa_cons (pv 5) (pa_cons pe_int pa_nil))) (pa_cons (pe_callR (ok_least2 T KB) hr9 T.gLeast (by rfl) passL (pa_cons (pv 5) (pa_cons pe_int pa_nil)))
    (pa_cons (pe_callR (ok_least2 T KB) hr9 T.gLeast (by rfl) passL (pa_cons (pv 5) (pa_cons pe_int pa_nil))) (pa_cons (pe_callR (ok_least4 T KB) hr9 T.gLeast (by rfl) passL (pa_cons (pv 5) (pa_cons pe_int (pa_cons pe_int (pa_cons pe_int pa_nil))))) pa_nil)))))) c5
  have c3 : PSs X ((defBody sLaw).drop 2) _ := pss_cons (ps_set (i := 5) nd rfl (Or.inl rfl) (pe_makeR T.mkTable (ok_tinit T) hr4 (by rfl) T.mgTable pass0 (pa_cons pe_int (pa_cons pe_int (pa_cons (pe_op op_cat (pe_op op_rep (pe_lst (pa_cons pe_int pa_nil)) pe_int) (pe_lst (pa_cons pe_int (pa_cons pe_int pa_nil)))) pa_nil))))) c4
  have c2 : PSs X ((defBody sLaw).drop 1) _ := pss_cons (ps_for PassesOwn.never rfl (pi_range1 rfl T.nRange (pa_cons pe_int pa_nil)) (pg_name (i := 2) nd rfl (Or.inl rfl))
    (pss_cons (ps_set (i := 3) nd rfl (Or.inr rfl) (pe_callR (ok_told T) hr3 T.gTold (by rfl) pass0 (pa_cons (pv 1) pa_nil)))
    (pss_cons (ps_set (i := 4) nd rfl (Or.inr rfl) (pe_makeR T.mkTable (ok_tinit T) hr4 (by rfl) T.mgTable pass0 (pa_cons (pe_ix ix_tup (pv 3) pe_int (fun _ _ => rfl)) (pa_cons (pe_ix ix_tup (pv 3) pe_int (fun _ _ => rfl)) (pa_cons (pe_ix ix_tup (pv 3) pe_int (fun _ _ => rfl)) pa_nil)))))
    (pss_one (ps_if (PW.pt (pw_or (pt_cmpR (op_neD hr.units) (pe_lc (own := [("_law_turn", 8)]) (g := gName 8) rfl nd (pi_range1 rfl T.nRange (pa_cons pe_int pa_nil)) (blkOk_by (N := ["_law_script", "_law_pen_here", "_law_lap", "_law_told_here", "_law_sheet", "_law_far", "_law_some", "_law_late", "_law_turn"]) (sc := defScope sLaw) (by decide +kernel)) (fun _ _ _ _ _ => pg_name (i := 8) nd rfl (Or.inl rfl))
          (fun _ _ _ _ _ => pts_one (pt_not (pt_val (pe_callR (ok_right T KB) hr11 T.gRight (by rfl) pass0 (pa_cons (pv 1) (pa_cons (pv 3) (pa_cons (pv 4) pa_nil))))))) (fun _ _ _ _ _ => pe_int)) (pe_lst pa_nil) (nomark _))
        (pw_or1 (pt_not (pt_val (pe_callR (ok_refused T T2 KB TB) hr12 T.gRefused (by rfl) pass0 (pa_cons (pv 1) (pa_cons (pv 4) pa_nil)))))))) pss_never pss_nil))))) c3
  have c1 : PSs X (defBody sLaw) _ := pss_cons (ps_set (i := 1) nd rfl (Or.inr rfl) (pe_callR (ok_pen T) hr1 T.gPen (by rfl) pass0 (pa_cons (pv 0) pa_nil))) c2
  refine ⟨_, c1.nox, ?_⟩
  refine ⟨_, rfl, a, ns, rfl, ha, fun p c H1 s1 P1 _ => ?_⟩
  have HT1 : Tabs [(PT, qLam)] H1 := HT.ext s1
  refine ⟨_, rfl, by decide, by decide, for_range (fun i σ H' => (∃ x2 x3 x4, σ = [some (.ref a), some (.ref p), x2, x3, x4, none, none, none, none]) ∧ Pen H' p c (80 * i) ∧ Tabs [(PT, qLam)] H') ⟨⟨none, none, none, rfl⟩, P1, HT1⟩ ?_ ?_⟩
  · rintro i σ H2 hi ⟨⟨x2, x3, x4, rfl⟩, P2, HT2⟩
    have hi4 : i < 4 := hi
    refine ⟨_, rfl, p, c, 80 * i, rfl, P2, by omega, fun ta row b q H3 s3 P3 U3 => ?_⟩
    have HT3 := tabs_smB P2 s3 HT2
    obtain ⟨rr, hta, hrr⟩ := U3.ex
    have b7 := U3.b7
    have q8 := U3.q8
    refine ⟨_, rfl, ta, _, 1, _, rfl, rfl, SqT.of hta, rfl, _, rfl, ta, _, 2, _, rfl, rfl, SqT.of hta, rfl, _, rfl, ta, _, 0, _, rfl, rfl, SqT.of hta, rfl, fun x dx nx ndx ne => ?_⟩
    have sN : Same H3 (upd (upd H3 dx (.own x)) x (.ins (gA K "Table") dx [])) := same_new nx ndx
    refine ⟨x, dx, rr, b, q, row, rfl, upd_same, sN _ _ hrr, U3.len, U3.q0, by omega, U3.z0, U3.ok, fun H4 kb kq R4 s4' => ⟨rfl, ?_⟩⟩
    have s4 := same_smB nx sN s4'
    have P4 := P3.same s4
    have HT4 : Tabs [(PT, qLam)] H4 := HT3.ext s4
    have U4 := U3.same' s4
    refine ⟨_, rfl, by decide, by decide, fun D hD => lc_range (fun j H' => Pen H' p c (80 * i + 20 + 6 * j) ∧ Tabs [(PT, qLam)] H' ∧ ToldAt H' ta row b q ∧ TabAt K H' x (tw row b q) kb kq ∧ H' D = some (.lst [])) ?_ ?_ ?_⟩
    · have sD := same_upd (o := .lst []) (sameR H4) hD
      exact ⟨P4.same sD, HT4.ext sD, U4.same' sD, R4.same sD, upd_same⟩
    · rintro j H5 hj ⟨P5, HT5, U5, R5, hD5⟩
      have hj8 : j < 8 := hj
      have nD : D ≠ p := newNe P4 hD
      refine ⟨rfl, _, rfl, _, rfl, _, rfl, p, c, ta, x, row, b, q, kb, kq, _, rfl, P5, by omega, U5, R5, fun H6 s6 P6 => ⟨_, rfl, iteF ⟨P6, tabs_smB P5 s6 HT5, U5.smB P5 s6, R5.smB P5 s6, s6 _ _ nD hD5⟩⟩⟩
    · rintro H5 ⟨P5, HT5, U5, R5, hD5⟩
      refine ⟨Nat.zero_le _, fun e he => ?_⟩
      have sE := same_upd (o := .lst []) (sameR H5) he
      refine ⟨.list [], .list [], .lst (SqL.of (sE _ _ hD5)) .nil, .lst (SqL.of upd_same) .nil, by decide +kernel, by decide +kernel, _, rfl, ?_⟩
      rw [show PyData.eqv (.list []) (.list []) = true by decide +kernel]
      refine iteF ⟨_, rfl, _, rfl, p, c, x, tw row b q, kb, kq, _, rfl, P5.same sE, by omega, R5.same sE, HT5.ext sE, fun H7 m7 P7 HT7 => ⟨_, rfl, iteF ⟨⟨_, _, _, rfl⟩, P7.mono (by omega), HT7⟩⟩⟩
  · rintro σ H2 ⟨⟨x2, x3, x4, rfl⟩, _, _⟩
    -- far
    refine ⟨(by show 1 ≤ sizeLine; decide), fun l1 hl1 => ⟨l1, _, _, rfl, rfl, upd_same, by decide, by decide, by decide, fun l2 hl2 => ⟨(by show 2 ≤ sizeLine; decide), fun l3 hl3 => ?_⟩⟩⟩
    have z1 := same_upd (o := .lst [V.int 0]) (sameR H2) hl1
    have z2 := same_upd (o := .lst (List.replicate (Int.toNat 900) [V.int 0]).flatten) z1 hl2
    have z3 := same_upd (o := .lst [V.int 1, V.int 2]) z2 hl3
    refine ⟨l2, l3, _, _, rfl, rfl, same_upd (o := .lst [V.int 1, V.int 2]) (sameR _) hl3 _ _ upd_same, upd_same, by decide +kernel, fun l4 hl4 => ?_⟩
    have e4 : upd (upd (upd (upd H2 l1 (.lst [V.int 0])) l2 (.lst (List.replicate (Int.toNat 900) [V.int 0]).flatten)) l3 (.lst [V.int 1, V.int 2])) l4 (.lst ((List.replicate (Int.toNat 900) [V.int 0]).flatten ++ [V.int 1, V.int 2])) l4 = some (.lst (rowF.map V.int)) := by
      rw [upd_same]
      exact congrArg (fun z => some (HO.lst z)) rowF_map
    dsimp only [tNil]
    generalize upd (upd (upd (upd H2 l1 (.lst [V.int 0])) l2 (.lst (List.replicate (Int.toNat 900) [V.int 0]).flatten)) l3 (.lst [V.int 1, V.int 2])) l4 (.lst ((List.replicate (Int.toNat 900) [V.int 0]).flatten ++ [V.int 1, V.int 2])) = H3 at e4
    intro x dx nx ndx ne
    have sN : Same H3 (upd (upd H3 dx (.own x)) x (.ins (gA K "Table") dx [])) := same_new nx ndx
    refine ⟨x, dx, l4, 900, 2, rowF, rfl, upd_same, sN _ _ e4, rowF_len, by decide, by decide, rowF_0, rowF_ok, fun H4 kb kq R4 s4 => ⟨rfl, ?_⟩⟩
    refine ⟨_, rfl, ?_⟩
    dsimp only [tCons, tC, tNil]
    show spLeast K [.ref x, .int ((1 : Nat) : Int), .int ((0 : Nat) : Int), .int ((1 : Nat) : Int)] H4 _ E0
    refine okLeast R4 (by decide) (by decide) (by decide) (by decide) leave_F1 fun H5 s5 => ?_
    have R5 := R4.same s5
    refine ⟨_, rfl, ?_⟩
    dsimp only [tCons, tC, tNil]
    show spLeast K [.ref x, .int ((3 : Nat) : Int), .int ((0 : Nat) : Int), .int ((1 : Nat) : Int)] H5 _ E0
    refine okLeast R5 (by decide) (by decide) (by decide) (by decide) leave_F3 fun H6 s6 => ?_
    have R6 := R5.same s6
    refine ⟨_, rfl, ?_⟩
    dsimp only [tCons, tC, tNil]
    show spLeast K [.ref x, .int ((2 : Nat) : Int), .int ((0 : Nat) : Int), .int ((1 : Nat) : Int)] H6 _ E0
    refine okLeast R6 (by decide) (by decide) (by decide) (by decide) leave_F2 fun H7 s7 => ?_
    have R7 := R6.same s7
    refine ⟨_, rfl, ?_⟩
    dsimp only [tCons, tC, tNil]
    show spLeast K [.ref x, .int ((1 : Nat) : Int), .int ((0 : Nat) : Int), .int ((2 : Nat) : Int)] H7 _ E0
    refine okLeast R7 (by decide) (by decide) (by decide) (by decide) leave_F12 fun H8 s8 => ?_
    refine ⟨(by show 4 ≤ sizeLine; decide), fun la hla => ?_⟩
    refine ⟨_, rfl, (by show 4 ≤ sizeLine; decide), fun lb hlb => ?_⟩
    refine ⟨.list [.int 899, .int 897, .none, .int 898], .list [.int 899, .int 897, .none, .int 898], .lst (SqL.of (same_upd (o := .lst [.int 899, .int 897, .non, .int 898]) (sameR _) hlb _ _ upd_same)) (.cons (.int _) (.cons (.int _) (.cons .non (.cons (.int _) .nil)))), .lst (SqL.of upd_same) (.cons (.int _) (.cons (.int _) (.cons .non (.cons (.int _) .nil)))), by decide +kernel, by decide +kernel, _, rfl, ?_⟩
    rw [show PyData.eqv (.list [.int 899, .int 897, .none, .int 898]) (.list [.int 899, .int 897, .none, .int 898]) = true by decide +kernel]
    refine iteF ?_
    -- late
    refine ⟨(by show 4 ≤ sizeLine; decide), fun l5 hl5 => ?_⟩
    dsimp only [tNil]
    intro y dy ny ndy ney
    have sM := same_new (o1 := .ins (gA K "Table") dy []) (o2 := .own y) ny ndy
    refine ⟨y, dy, l5, 2, 2, rowL, rfl, upd_same, sM _ _ upd_same, rfl, by decide, by decide, rfl, by decide, fun G4 kb2 kq2 Q4 t4 => ⟨rfl, ?_⟩⟩
    refine ⟨_, rfl, ?_⟩
    dsimp only [tCons, tC, tNil]
    show spLeast K [.ref y, .int ((1 : Nat) : Int), .int ((0 : Nat) : Int), .int ((1 : Nat) : Int)] G4 _ E0
    refine okLeast Q4 (by decide) (by decide) (by decide) (by decide) leave_L1 fun G5 t5 => ?_
    have Q5 := Q4.same t5
    refine ⟨_, rfl, ?_⟩
    dsimp only [tCons, tC, tNil]
    show spLeast K [.ref y, .int ((2 : Nat) : Int), .int ((0 : Nat) : Int), .int ((1 : Nat) : Int)] G5 _ E0
    refine okLeast Q5 (by decide) (by decide) (by decide) (by decide) (leave_Leven (by decide)) fun G6 t6 => ?_
    have Q6 := Q5.same t6
    refine ⟨_, rfl, ?_⟩
    dsimp only [tCons, tC, tNil]
    show spLeast K [.ref y, .int ((3 : Nat) : Int), .int ((0 : Nat) : Int), .int ((2 : Nat) : Int)] G6 _ E0
    refine okLeast Q6 (by decide) (by decide) (by decide) (by decide) leave_L3 fun G7 t7 => ?_
    have Q7 := Q6.same t7
    refine ⟨_, rfl, ?_⟩
    dsimp only [tCons, tC, tNil]
    show spLeast K [.ref y, .int ((400 : Nat) : Int), .int ((0 : Nat) : Int), .int ((1 : Nat) : Int)] G7 _ E0
    refine okLeast Q7 (by decide) (by decide) (by decide) (by decide) (leave_Leven (by decide)) fun G8 t8 => ?_
    refine ⟨(by show 4 ≤ sizeLine; decide), fun lc hlc => ?_⟩
    refine ⟨_, rfl, (by show 4 ≤ sizeLine; decide), fun ld hld => ?_⟩
    refine ⟨.list [.int 2, .none, .int 2, .none], .list [.int 2, .none, .int 2, .none], .lst (SqL.of (same_upd (o := .lst [.int 2, .non, .int 2, .non]) (sameR _) hld _ _ upd_same)) (.cons (.int _) (.cons .non (.cons (.int _) (.cons .non .nil)))), .lst (SqL.of upd_same) (.cons (.int _) (.cons .non (.cons (.int _) (.cons .non .nil)))), by decide +kernel, by decide +kernel, ?_⟩
    rw [show PyData.eqv (.list [.int 2, .none, .int 2, .none]) (.list [.int 2, .none, .int 2, .none]) = true by decide +kernel]
    exact k _
end
end FT
/-! What the head's Hook tells, and what the walk makes of it. -/
namespace FTH
open PySem PySem.Spec PyProof.Rows L2 FT
open PySem.W (Frag)
def fa : List He.Fa := [.free "isinstance", .free "int", .free "bool", .free "len", .free "max", .free "range", .free "list", .free "tuple", .free "all", .free "abs", .free "repr", .free "ValueError", .free "super", .int "MOST_HEAP" 1000000000000000000000000000000, .int "MOST_NUMBER" 400, .int "MOST_MODULUS" 6, .int "MOST_PARTS" 1000, .int "MOST_WORTH" 400, .glo "is_integer", .glo "is_heap", .glo "need_heap", .glo "common_multiple", .glo "need_part", .glo "is_barred", .glo "settled_from", .glo "bars", .glo "free", .glo "is_free", .glo "least_leave", .glo "are_worths", .glo "shortest_turn", .glo "least_form", .glo "_law_pen", .glo "_law_draw", .glo "_law_pick", .glo "_law_left", .glo "_law_told", .glo "_law_at", .glo "_law_whole", .glo "_law_end", .glo "_law_is_barred", .glo "_law_due", .glo "_law_heard", .glo "_law_right", .glo "_law_refused_right", .glo "law", .glo "BadRule", .glo "FreeError", .glo "Rested", .glo "Sized", .glo "Fixed", .glo "Free", .glo "Barred", .glo "Table", .glo "FreeAnswer", .cls "Fixed", .cls "Free", .cls "Barred", .cls "Table", .noat "Fixed" "size", .noat "Fixed" "leave", .noat "Fixed" "rest", .noat "Fixed" "modulus", .noat "Fixed" "start", .noat "Fixed" "reach", .noat "Free" "rule", .noat "Barred" "rule", .noat "Barred" "heap", .noat "Barred" "left", .noat "Table" "begin", .noat "Table" "period", .noat "Table" "numbers", .meth "Fixed" "stands_at", .meth "Fixed" "left_at", .meth "Free" "__bool__", .meth "Barred" "__bool__", .meth "Table" "worth_at", .mkr "Fixed", .mkr "Free", .mkr "Barred", .mkr "Table", .exm "BadRule" "FreeError" true]
def dIsInt : He.DefD := ⟨("is_integer", none), "is_integer", "is_integer", defArgs sIsInt, defBody sIsInt, defScope sIsInt, [], []⟩
def dIsHeap : He.DefD := ⟨("is_heap", none), "is_heap", "is_heap", defArgs sIsHeap, defBody sIsHeap, defScope sIsHeap, [], []⟩
def dNeedHeap : He.DefD := ⟨("need_heap", none), "need_heap", "need_heap", defArgs sNeedHeap, defBody sNeedHeap, defScope sNeedHeap, [], []⟩
def dCommon : He.DefD := ⟨("common_multiple", none), "common_multiple", "common_multiple", defArgs sCommon, defBody sCommon, defScope sCommon, [], []⟩
def dNeedPart : He.DefD := ⟨("need_part", none), "need_part", "need_part", defArgs sNeedPart, defBody sNeedPart, defScope sNeedPart, [], []⟩
def dRested : He.DefD := ⟨("Rested", some "__init__"), "__init__", "Rested.__init__", defArgs sRested, defBody sRested, defScope sRested, [], []⟩
def dSized : He.DefD := ⟨("Sized", some "__init__"), "__init__", "Sized.__init__", defArgs sSized, defBody sSized, defScope sSized, [], []⟩
def dFixed : He.DefD := ⟨("Fixed", some "__init__"), "__init__", "Fixed.__init__", defArgs sFixed, defBody sFixed, defScope sFixed, [.int 0, .int 1, .int 0], []⟩
def dStands : He.DefD := ⟨("Fixed", some "stands_at"), "stands_at", "Fixed.stands_at", defArgs sStands, defBody sStands, defScope sStands, [], []⟩
def dLeft : He.DefD := ⟨("Fixed", some "left_at"), "left_at", "Fixed.left_at", defArgs sLeft, defBody sLeft, defScope sLeft, [], []⟩
def dFAinit : He.DefD := ⟨("FreeAnswer", some "__init__"), "__init__", "FreeAnswer.__init__", defArgs sFAinit, defBody sFAinit, defScope sFAinit, [], []⟩
def dFBool : He.DefD := ⟨("Free", some "__bool__"), "__bool__", "Free.__bool__", defArgs sFreeBool, defBody sFreeBool, defScope sFreeBool, [], []⟩
def dBBool : He.DefD := ⟨("Barred", some "__bool__"), "__bool__", "Barred.__bool__", defArgs sBarBool, defBody sBarBool, defScope sBarBool, [], []⟩
def dIsBarred : He.DefD := ⟨("is_barred", none), "is_barred", "is_barred", defArgs sIsBarred, defBody sIsBarred, defScope sIsBarred, [], []⟩
def dSettled : He.DefD := ⟨("settled_from", none), "settled_from", "settled_from", defArgs sSettled, defBody sSettled, defScope sSettled, [], []⟩
def dBars : He.DefD := ⟨("bars", none), "bars", "bars", defArgs sBars, defBody sBars, defScope sBars, [.int 0], []⟩
def dFree : He.DefD := ⟨("free", none), "free", "free", defArgs sFree, defBody sFree, defScope sFree, [], []⟩
def dIsFree : He.DefD := ⟨("is_free", none), "is_free", "is_free", defArgs sIsFree, defBody sIsFree, defScope sIsFree, [], []⟩
def dLeast : He.DefD := ⟨("least_leave", none), "least_leave", "least_leave", defArgs sLeast, defBody sLeast, defScope sLeast, [.int 0, .int 1], []⟩
def dAreW : He.DefD := ⟨("are_worths", none), "are_worths", "are_worths", defArgs sAreW, defBody sAreW, defScope sAreW, [], []⟩
def dShort : He.DefD := ⟨("shortest_turn", none), "shortest_turn", "shortest_turn", defArgs sShort, defBody sShort, defScope sShort, [], []⟩
def dLForm : He.DefD := ⟨("least_form", none), "least_form", "least_form", defArgs sLForm, defBody sLForm, defScope sLForm, [], []⟩
def dTinit : He.DefD := ⟨("Table", some "__init__"), "__init__", "Table.__init__", defArgs sTinit, defBody sTinit, defScope sTinit, [], []⟩
def dWorthAt : He.DefD := ⟨("Table", some "worth_at"), "worth_at", "Table.worth_at", defArgs sWorthAt, defBody sWorthAt, defScope sWorthAt, [], []⟩
def dPen : He.DefD := ⟨("_law_pen", none), "_law_pen", "_law_pen", defArgs sPen, defBody sPen, defScope sPen, [], []⟩
def dDraw : He.DefD := ⟨("_law_draw", none), "_law_draw", "_law_draw", defArgs sDraw, defBody sDraw, defScope sDraw, [], []⟩
def dPick : He.DefD := ⟨("_law_pick", none), "_law_pick", "_law_pick", defArgs sPick, defBody sPick, defScope sPick, [], []⟩
def dLLeft : He.DefD := ⟨("_law_left", none), "_law_left", "_law_left", defArgs sLLeft, defBody sLLeft, defScope sLLeft, [], []⟩
def dTold : He.DefD := ⟨("_law_told", none), "_law_told", "_law_told", defArgs sTold, defBody sTold, defScope sTold, [], []⟩
def dAt : He.DefD := ⟨("_law_at", none), "_law_at", "_law_at", defArgs sAt, defBody sAt, defScope sAt, [], []⟩
def dWhole : He.DefD := ⟨("_law_whole", none), "_law_whole", "_law_whole", defArgs sWhole, defBody sWhole, defScope sWhole, [], []⟩
def dEnd : He.DefD := ⟨("_law_end", none), "_law_end", "_law_end", defArgs sEnd, defBody sEnd, defScope sEnd, [], []⟩
def dLBarred : He.DefD := ⟨("_law_is_barred", none), "_law_is_barred", "_law_is_barred", defArgs sLBarred, defBody sLBarred, defScope sLBarred, [], []⟩
def dDue : He.DefD := ⟨("_law_due", none), "_law_due", "_law_due", defArgs sDue, defBody sDue, defScope sDue, [], []⟩
def dHeard : He.DefD := ⟨("_law_heard", none), "_law_heard", "_law_heard", defArgs sHeard, defBody sHeard, defScope sHeard, [], []⟩
def dRight : He.DefD := ⟨("_law_right", none), "_law_right", "_law_right", defArgs sRight, defBody sRight, defScope sRight, [], []⟩
def dRefused : He.DefD := ⟨("_law_refused_right", none), "_law_refused_right", "_law_refused_right", defArgs sRefused, defBody sRefused, defScope sRefused, [], []⟩
def dLaw : He.DefD := ⟨("law", none), "law", "law", defArgs sLaw, defBody sLaw, defScope sLaw, [], []⟩
def fn : List He.DefD := [dIsInt, dIsHeap, dNeedHeap, dCommon, dNeedPart, dRested, dSized, dFixed, dStands, dLeft, dFAinit, dFBool, dBBool, dIsBarred, dSettled, dBars, dFree, dIsFree, dLeast, dAreW, dShort, dLForm, dTinit, dWorthAt, dPen, dDraw, dPick, dLLeft, dTold, dAt, dWhole, dEnd, dLBarred, dDue, dHeard, dRight, dRefused, dLaw]
def rootA : List Str := ["BadRule", "FreeError", "Rested", "Sized", "Fixed", "Free", "Barred", "Table", "FreeAnswer", "is_integer", "is_heap", "need_heap", "common_multiple", "need_part", "is_barred", "settled_from", "bars", "free"]
def rootB : List Str := ["is_free", "least_leave", "are_worths", "shortest_turn", "least_form", "_law_pen", "_law_draw", "_law_pick", "_law_left", "_law_told", "_law_at", "_law_whole", "_law_end", "_law_is_barred", "_law_due", "_law_heard", "_law_right", "_law_refused_right", "law"]
def rootNames : List Str := rootA ++ rootB
abbrev thePr : Program := PySem.Challenge.rw_freetakes_k30_whole_least_leaves.prog
/-! ### closures with one cell -/
abbrev FnC : Type := Option (Str × Str × Arguments × FuncBody × Scope × Addr × List Str × Addr)
def fnC (K : Frag) (f : Addr) : FnC := match K.lookup f with
  | some ⟨_, _, .func fd, _⟩ => some (fd.name, fd.qualname, fd.params, fd.body, fd.scope, fd.globals, fd.closure.map (·.1), fd.builtins)
  | _ => none
def cellB (K : Frag) (cc C : Addr) : Bool := match K.lookup cc with
  | some ⟨_, _, .cell (some (.ref D)), _⟩ => decide (D = C)
  | _ => false
def fileB (K : Frag) (cda : Addr) : Bool := match K.lookup cda with
  | some ⟨_, _, .fields vs, _⟩ => (match (vs[2]? : Option Value) with
    | some (.str z _) => ((thePr.main.file : Str) == z)
    | _ => false)
  | _ => false
def plainB (dV kV : Value) (an : Option Addr) : Bool := match dV, kV, an with
  | .none, .none, none => true
  | _, _, _ => false
def onlyB (K : Frag) (cl : List (Str × Addr)) (C : Addr) : Bool := match cl with
  | [(_, cc)] => cellB K cc C
  | _ => false
def codeB (K : Frag) (cd : Value) : Bool := match cd with
  | .ref cda => fileB K cda
  | _ => false
def cloB (K : Frag) (f C : Addr) (q : Str) : Bool := match K.lookup f with
  | some ⟨_, _, .func fd, _⟩ => PySem.W.codeIn K fd.code q && (plainB fd.defaults fd.kwdefaults fd.annotations && (onlyB K fd.closure C && codeB K fd.code))
  | _ => false
theorem cellB_ok {K : Frag} {cc C : Addr} (h : cellB K cc C = true) : ∃ (cl : Value) (cld : Option Addr) (csl : Array (Option Value)), K.lookup cc = some ⟨cl, cld, .cell (some (.ref C)), csl⟩ := by
  unfold cellB at h
  split at h
  · rename_i c1 c2 D c3 e
    have eD : D = C := of_decide_eq_true h
    rw [eD] at e
    exact ⟨_, _, _, e⟩
  · cases h
theorem fileB_ok {K : Frag} {cda : Addr} (h : fileB K cda = true) : ∃ (ccl : Value) (cdd : Option Addr) (vs : Array Value) (ccs : Array (Option Value)) (file : Str) (tf : Tok), K.lookup cda = some ⟨ccl, cdd, .fields vs, ccs⟩ ∧ vs[2]? = some (.str file tf) ∧ ((thePr.main.file : Str) == file) = true := by
  unfold fileB at h
  split at h
  · rename_i c1 c2 vs c3 e
    split at h
    · rename_i z tf e2
      exact ⟨_, _, _, _, z, tf, e, e2, h⟩
    · cases h
  · cases h
theorem plainB_ok {dV kV : Value} {an : Option Addr} (h : plainB dV kV an = true) : dV = .none ∧ kV = .none ∧ an = none := by
  unfold plainB at h
  split at h
  · exact ⟨rfl, rfl, rfl⟩
  · cases h
theorem clo_ok {K : Frag} {f C : Addr} {name q : Str} {params : Arguments} {body : List Stmt} {scope : Scope} (e : fnC K f = some (name, q, params, FuncBody.stmts body, scope, mainGlobals, [("__class__" : Str)], builtinsNs)) (h : cloB K f C q = true) :
    ∃ (oc : Value) (od : Option Addr) (doc pm : Value) (cda cc : Addr) (ct : Value) (osl : Array (Option Value)), K.lookup f = some ⟨oc, od, .func (PySem.W.fnX name q params body scope [(("__class__" : Str), cc)] .none .none doc pm none (.ref cda) ct), osl⟩ ∧ PySem.W.codeIn K (.ref cda) q = true ∧
      (∃ (cl : Value) (cld : Option Addr) (csl : Array (Option Value)), K.lookup cc = some ⟨cl, cld, .cell (some (.ref C)), csl⟩) ∧
      ∃ (ccl : Value) (cdd : Option Addr) (vs : Array Value) (ccs : Array (Option Value)) (file : Str) (tf : Tok), K.lookup cda = some ⟨ccl, cdd, .fields vs, ccs⟩ ∧ vs[2]? = some (.str file tf) ∧ ((thePr.main.file : Str) == file) = true := by
  unfold fnC at e
  unfold cloB at h
  cases lk : K.lookup f with
  | none =>
    rw [lk] at h
    cases h
  | some o =>
    obtain ⟨oc, od, dt, osl⟩ := o
    rw [lk] at h e
    cases dt with
    | func fd =>
      obtain ⟨n1, n2, n3, n4, n5, n6, n7, n8, n9, n10, n11, n12, n13, n14, n15⟩ := fd
      have e2 : (some (n1, n2, n3, n4, n5, n6, n7.map (·.1), n15) : FnC) = some (name, q, params, FuncBody.stmts body, scope, mainGlobals, [("__class__" : Str)], builtinsNs) := e
      simp only [Option.some.injEq, Prod.mk.injEq] at e2
      obtain ⟨h1, h2, h3, h4, h5, h6, h7, h8⟩ := e2
      have h' : (PySem.W.codeIn K n13 q && (plainB n8 n9 n12 && (onlyB K n7 C && codeB K n13))) = true := h
      obtain ⟨k1, k2⟩ := He.ba h'
      obtain ⟨k3, k4⟩ := He.ba k2
      obtain ⟨k5, k6⟩ := He.ba k4
      obtain ⟨p1, p2, p3⟩ := plainB_ok k3
      obtain ⟨cda, rfl⟩ := He.codeIn_ref k1
      match n7, h7, k5 with
      | [(y, cc)], h7, k5 =>
        have hy : y = ("__class__" : Str) := by simpa using h7
        subst h1 h2 h3 h4 h5 h6 h8 p1 p2 p3 hy
        exact ⟨oc, od, n10, n11, cda, cc, n14, osl, rfl, k1, cellB_ok k5, fileB_ok k6⟩
    | _ => cases h
/-! ### an error's class -/
def clsDB (C : Addr) (cd : ClassData) (sl : Array (Option Value)) : Bool := (match cd.mro with
    | .ref D :: bm => decide (D = C) && HandSPX.refsVE bm
    | _ => false) && (cd.hasDict && (!cd.hasDel && (match sl.toList with
    | [_, _, _, _, some (.builtin n), _] => decide (n = "ValueError.__new__")
    | _ => false)))
def clsB (K : Frag) (C : Addr) : Bool := match K.lookup C with
  | some ⟨.type t, _, .cls cd, sl⟩ => decide (t = "type") && clsDB C cd sl
  | _ => false
theorem clsB_ok {K : Frag} {C : Addr} (h : clsB K C = true) : ∃ nm q N bs bm sn sub ab col dd k0 k1 k2 k3 k5, K.lookup C = some (excClassObj nm q C N bs bm true sn sub ab col dd k0 k1 k2 k3 k5 "ValueError.__new__") ∧ HandSPX.refsVE bm = true := by
  unfold clsB at h
  split at h
  · rename_i t dd cd sl lk
    obtain ⟨h1, g1⟩ := He.ba h
    obtain ⟨h2, g2⟩ := He.ba g1
    obtain ⟨h3, g3⟩ := He.ba g2
    obtain ⟨h4, h5⟩ := He.ba g3
    clear h g1 g2 g3
    obtain ⟨c1, c2, c3, c4, c5, c6, c7, c8, c9, c10, c11⟩ := cd
    have et : t = "type" := of_decide_eq_true h1
    dsimp only at h2 h3 h4
    have e11 : c11 = false := by simpa using h4
    split at h2
    · rename_i D bm
      obtain ⟨h6, h7⟩ := He.ba h2
      have eD : D = C := of_decide_eq_true h6
      split at h5
      · rename_i k0 k1 k2 k3 n k5 es
        have en : n = "ValueError.__new__" := of_decide_eq_true h5
        have esl : sl = #[k0, k1, k2, k3, some (.builtin "ValueError.__new__"), k5] := by
          rw [← en]
          apply Array.ext'
          rw [es]
        subst et eD h3 e11 esl
        exact ⟨c1, c5, c4, c2, bm, c7, c8, c9, c10, dd, k0, k1, k2, k3, k5, lk, h7⟩
      · cases h5
    · cases h2
  · cases h
def cvB (K : Frag) (C : Addr) (mc : Value) (x : Str) (u : Value) : Bool := match PySem.W.findCls K (.ref C) mc x with
  | some (.val v) => decide (v = u)
  | _ => false
theorem cvB_ok {K : Frag} {C : Addr} {mc : Value} {x : Str} {u : Value} (h : cvB K C mc x u = true) : PySem.W.findCls K (.ref C) mc x = some (.val u) := by
  unfold cvB at h
  split at h
  · rename_i v e
    rw [e, of_decide_eq_true h]
  · cases h
/-! ### all that is asked beside -/
def exs (K : Frag) : List Bool := [
  PySem.W.readsIn K (gA K "Rested") (.type "type"),
  He.eqO (PySem.W.specialIn K (.ref (gA K "Rested")) "__getattribute__") (some (some (.builtin "type.__getattribute__"))),
  cvB K (gA K "Rested") (.type "type") "__init__" (.ref (mA K "Rested" "__init__")),
  PySem.W.readsIn K (gA K "Sized") (.type "type"),
  He.eqO (PySem.W.specialIn K (.ref (gA K "Sized")) "__getattribute__") (some (some (.builtin "type.__getattribute__"))),
  cvB K (gA K "Sized") (.type "type") "__init__" (.ref (mA K "Sized" "__init__")),
  He.eqO (PySem.W.findIn K (.ref (gA K "Fixed")) "__class__") (some (some (.builtin "object.__class__"))),
  He.eqO (PySem.W.specialIn K (.builtin "object.__class__") "__get__") (some (some (.builtin "getset_descriptor.__get__"))),
  decide (PySem.W.takesIn K (.builtin "object.__class__") = some true),
  decide (PySem.W.mroIn K (gA K "Fixed") (.type "object") = some true),
  decide (PySem.W.kitOne K (.ref (gA K "Fixed")) (.ref (gA K "Fixed")) = some true),
  decide (PySem.W.kitOne K (.ref (gA K "BadRule")) (.ref (gA K "BadRule")) = some true),
  decide (PySem.W.kitOne K (.ref (gA K "BadRule")) (.type "ValueError") = some true),
  decide (He.ma K (He.ga K "Free") "__init__" = (mA K "FreeAnswer" "__init__")),
  clsB K (gA K "BadRule"),
  He.eqO (PySem.W.findIn K (.ref (gA K "BadRule")) "__setattr__") (some (some (.builtin "object.__setattr__"))),
  He.eqO (PySem.W.findIn K (.ref (gA K "BadRule")) "__getattribute__") (some (some (.builtin "BaseException.__getattribute__"))),
  He.eqO (PySem.W.findIn K (.ref (gA K "BadRule")) "__getattr__") (some none),
  He.eqO (PySem.W.findIn K (.ref (gA K "BadRule")) "part") (some none),
  He.eqO (PySem.W.findIn K (.ref (gA K "BadRule")) "__init__") (some (some (.ref (mA K "BadRule" "__init__")))),
  decide (PySem.W.typeIn K (.ref (mA K "BadRule" "__init__")) = some (.type "function")),
  PySem.W.keepIn K (.ref (gA K "BadRule")),
  decide (PySem.W.subIn K (.ref (gA K "BadRule")) (.type "BaseException") = some true),
  decide (PySem.W.subIn K (.ref (gA K "BadRule")) (.type "ValueError") = some true),
  decide (PySem.W.typeIn K (.ref (gA K "BadRule")) = some (.type "type")),
  PySem.W.hasDictIn K (gA K "BadRule"),
  decide (PySem.W.mroIn K (gA K "BadRule") (.ref (gA K "BadRule")) = some true),
  He.eqO (PySem.W.ks_superIn K (gA K "BadRule") (gA K "BadRule") "__init__") (some (some (.builtin "ValueError.__init__"))),
  He.eqO (PySem.W.nsIn K cStatics "thirdparty.any") (some none),
  cloB K (mA K "BadRule" "__init__") (gA K "BadRule") "BadRule.__init__",
  He.eqO (PySem.W.findIn K (.ref (gA K "BadRule")) "__class__") (some (some (.builtin "object.__class__"))),
  decide (PySem.W.mroIn K (gA K "BadRule") (.type "object") = some true),
  (PySem.W.clsIn K (gA K "BadRule")).isSome,
  cloB K (mA K "Barred" "__init__") (gA K "Barred") "Barred.__init__",
  (PySem.W.clsIn K (gA K "Barred")).isSome,
  decide (PySem.W.mroIn K (gA K "Barred") (.ref (gA K "Barred")) = some true),
  He.eqO (PySem.W.ks_superIn K (gA K "Barred") (gA K "Barred") "__init__") (some (some (.ref (mA K "FreeAnswer" "__init__")))),
  decide (PySem.W.typeIn K (.ref (mA K "FreeAnswer" "__init__")) = some (.type "function")),
  PySem.W.fnIn K (mA K "FreeAnswer" "__init__")]
def exA (K : Frag) : Bool := (exs K).all id
theorem exAt {K : Frag} {b : Bool} (h : exA K = true) (i : Nat) (e : (exs K)[i]? = some b) : b = true := List.all_eq_true.mp h b (List.mem_of_getElem? e)
def valB : FnC := some ("__init__", "BadRule.__init__", defArgs sBad, .stmts (defBody sBad), defScope sBad, mainGlobals, [("__class__" : Str)], builtinsNs)
def valR : FnC := some ("__init__", "Barred.__init__", defArgs sBarInit, .stmts (defBody sBarInit), defScope sBarInit, mainGlobals, [("__class__" : Str)], builtinsNs)
def topB : Bool := !(thePr.main.scope.names.lookup ("super" : Str)).isSome
theorem top_ok : (thePr.main.scope.names.lookup ("super" : Str)).isSome = false := by decide +kernel
theorem txt_of {K : Frag} {h0 : Heap} {mg : Str → Option Value} (X : K.In h0) (G : h0.Ns mainGlobals mg) (c : He.SaysD fa fn K) (h : exA K = true) (eB : fnC K (mA K "BadRule" "__init__") = valB) (eR : fnC K (mA K "Barred" "__init__") = valR) : Txt thePr K mg := by
  have bad : BadTxt thePr K mg (gA K "BadRule") (mA K "BadRule" "__init__") := by
    obtain ⟨oc, od, doc, pm, cda, cc, ct, osl, lk, hcd, ⟨cl, cld, csl, lc⟩, ccl, cdd, vs, ccs, file, tf, l2, l3, l4⟩ := clo_ok eB (exAt h 29 rfl)
    exact { gC := He.glo_ok X G (c.fact 46 (f := .glo "BadRule") rfl), cls := clsB_ok (exAt h 14 rfl), sa := (He.eqO_ok (exAt h 15 rfl)), ga := (He.eqO_ok (exAt h 16 rfl)), gg := (He.eqO_ok (exAt h 17 rfl)), noN := (He.eqO_ok (exAt h 18 rfl)), iC := (He.eqO_ok (exAt h 19 rfl)), tC := (of_decide_eq_true (exAt h 20 rfl)), kC := (exAt h 21 rfl), exC := (of_decide_eq_true (exAt h 22 rfl)), veC := (of_decide_eq_true (exAt h 23 rfl)), tyC := (of_decide_eq_true (exAt h 24 rfl)), hdC := (exAt h 25 rfl), mro := (of_decide_eq_true (exAt h 26 rfl)), sup := (He.eqO_ok (exAt h 27 rfl)), noS := He.free_ok X G (c.fact 12 (f := .free "super") rfl), top := top_ok, opq := (He.eqO_ok (exAt h 28 rfl)), fn := ⟨oc, od, doc, pm, none, cda, cc, ct, osl, ccl, cl, cdd, cld, vs, ccs, csl, file, tf, lk, hcd, l2, l3, l4, lc⟩ }
  have binit : ∃ (oc : Value) (od : Option Addr) (doc pm : Value) (cda cc : Addr) (ct : Value) (osl : Array (Option Value)),
      K.lookup (mA K "Barred" "__init__") = some ⟨oc, od, .func (PySem.W.fnX "__init__" "Barred.__init__" (defArgs sBarInit) (defBody sBarInit) (defScope sBarInit) [(("__class__" : Str), cc)] .none .none doc pm none (.ref cda) ct), osl⟩ ∧
      PySem.W.codeIn K (.ref cda) "Barred.__init__" = true ∧ (∃ (cl : Value) (cld : Option Addr) (csl : Array (Option Value)), K.lookup cc = some ⟨cl, cld, .cell (some (.ref (gA K "Barred"))), csl⟩) ∧
      SupTxt thePr K mg (gA K "Barred") (gA K "Barred") (mA K "Barred" "__init__") cda cc (mA K "FreeAnswer" "__init__") "__init__" "self"
        (PySem.W.fnX "__init__" "Barred.__init__" (defArgs sBarInit) (defBody sBarInit) (defScope sBarInit) [(("__class__" : Str), cc)] .none .none doc pm none (.ref cda) ct) := by
    obtain ⟨oc, od, doc, pm, cda, cc, ct, osl, lk, hcd, hcell, hfile⟩ := clo_ok eR (exAt h 33 rfl)
    have hs := (exAt h 34 rfl)
    obtain ⟨cdR, ecd⟩ := Option.isSome_iff_exists.mp hs
    refine ⟨oc, od, doc, pm, cda, cc, ct, osl, lk, hcd, hcell, ⟨⟨oc, od, osl, lk⟩, rfl, rfl, ⟨_, rfl, rfl⟩, hfile, ?_, (of_decide_eq_true (exAt h 35 rfl)), (He.eqO_ok (exAt h 36 rfl)), (of_decide_eq_true (exAt h 37 rfl)), (exAt h 38 rfl), He.free_ok X G (c.fact 12 (f := .free "super") rfl), top_ok, (He.eqO_ok (exAt h 28 rfl))⟩⟩
    unfold PySem.W.clsIn at ecd
    split at ecd
    · rename_i c1 c2 cd c3 e
      exact ⟨_, cd, e, rfl⟩
    · cases ecd
  have sameI := (of_decide_eq_true (exAt h 13 rfl))
  exact
    { nIsi := He.free_ok X G (c.fact 0 (f := .free "isinstance") rfl),
      nInt := He.free_ok X G (c.fact 1 (f := .free "int") rfl),
      nBool := He.free_ok X G (c.fact 2 (f := .free "bool") rfl),
      nLen := He.free_ok X G (c.fact 3 (f := .free "len") rfl),
      nMax := He.free_ok X G (c.fact 4 (f := .free "max") rfl),
      nRange := He.free_ok X G (c.fact 5 (f := .free "range") rfl),
      nList := He.free_ok X G (c.fact 6 (f := .free "list") rfl),
      nTuple := He.free_ok X G (c.fact 7 (f := .free "tuple") rfl),
      nAll := He.free_ok X G (c.fact 8 (f := .free "all") rfl),
      nAbs := He.free_ok X G (c.fact 9 (f := .free "abs") rfl),
      nRepr := He.free_ok X G (c.fact 10 (f := .free "repr") rfl),
      nVE := He.free_ok X G (c.fact 11 (f := .free "ValueError") rfl),
      cMH := He.int_ok X G (c.fact 13 (f := .int "MOST_HEAP" 1000000000000000000000000000000) rfl),
      cMN := He.int_ok X G (c.fact 14 (f := .int "MOST_NUMBER" 400) rfl),
      cMM := He.int_ok X G (c.fact 15 (f := .int "MOST_MODULUS" 6) rfl),
      cMP := He.int_ok X G (c.fact 16 (f := .int "MOST_PARTS" 1000) rfl),
      cMW := He.int_ok X G (c.fact 17 (f := .int "MOST_WORTH" 400) rfl),
      gIsInt := ⟨He.glo_ok X G (c.fact 18 (f := .glo "is_integer") rfl), let ⟨_, F⟩ := c.def_ 0 (d := dIsInt) rfl; F.kp⟩,
      fIsInt := c.def_ 0 (d := dIsInt) rfl,
      gIsHeap := ⟨He.glo_ok X G (c.fact 19 (f := .glo "is_heap") rfl), let ⟨_, F⟩ := c.def_ 1 (d := dIsHeap) rfl; F.kp⟩,
      fIsHeap := c.def_ 1 (d := dIsHeap) rfl,
      gNeedHeap := ⟨He.glo_ok X G (c.fact 20 (f := .glo "need_heap") rfl), let ⟨_, F⟩ := c.def_ 2 (d := dNeedHeap) rfl; F.kp⟩,
      fNeedHeap := c.def_ 2 (d := dNeedHeap) rfl,
      gCommon := ⟨He.glo_ok X G (c.fact 21 (f := .glo "common_multiple") rfl), let ⟨_, F⟩ := c.def_ 3 (d := dCommon) rfl; F.kp⟩,
      fCommon := c.def_ 3 (d := dCommon) rfl,
      gNeedPart := ⟨He.glo_ok X G (c.fact 22 (f := .glo "need_part") rfl), let ⟨_, F⟩ := c.def_ 4 (d := dNeedPart) rfl; F.kp⟩,
      fNeedPart := c.def_ 4 (d := dNeedPart) rfl,
      fRested := c.def_ 5 (d := dRested) rfl,
      fSized := c.def_ 6 (d := dSized) rfl,
      fFixed := c.def_ 7 (d := dFixed) rfl,
      fStands := c.def_ 8 (d := dStands) rfl,
      fLeft := c.def_ 9 (d := dLeft) rfl,
      fFAinit := c.def_ 10 (d := dFAinit) rfl,
      fFBool := c.def_ 11 (d := dFBool) rfl,
      fBBool := c.def_ 12 (d := dBBool) rfl,
      gIsBarred := ⟨He.glo_ok X G (c.fact 23 (f := .glo "is_barred") rfl), let ⟨_, F⟩ := c.def_ 13 (d := dIsBarred) rfl; F.kp⟩,
      fIsBarred := c.def_ 13 (d := dIsBarred) rfl,
      gSettled := ⟨He.glo_ok X G (c.fact 24 (f := .glo "settled_from") rfl), let ⟨_, F⟩ := c.def_ 14 (d := dSettled) rfl; F.kp⟩,
      fSettled := c.def_ 14 (d := dSettled) rfl,
      gBars := ⟨He.glo_ok X G (c.fact 25 (f := .glo "bars") rfl), let ⟨_, F⟩ := c.def_ 15 (d := dBars) rfl; F.kp⟩,
      fBars := c.def_ 15 (d := dBars) rfl,
      gFree := ⟨He.glo_ok X G (c.fact 26 (f := .glo "free") rfl), let ⟨_, F⟩ := c.def_ 16 (d := dFree) rfl; F.kp⟩,
      fFree := c.def_ 16 (d := dFree) rfl,
      gIsFree := ⟨He.glo_ok X G (c.fact 27 (f := .glo "is_free") rfl), let ⟨_, F⟩ := c.def_ 17 (d := dIsFree) rfl; F.kp⟩,
      fIsFree := c.def_ 17 (d := dIsFree) rfl,
      gLeast := ⟨He.glo_ok X G (c.fact 28 (f := .glo "least_leave") rfl), let ⟨_, F⟩ := c.def_ 18 (d := dLeast) rfl; F.kp⟩,
      fLeast := c.def_ 18 (d := dLeast) rfl,
      gAreW := ⟨He.glo_ok X G (c.fact 29 (f := .glo "are_worths") rfl), let ⟨_, F⟩ := c.def_ 19 (d := dAreW) rfl; F.kp⟩,
      fAreW := c.def_ 19 (d := dAreW) rfl,
      gShort := ⟨He.glo_ok X G (c.fact 30 (f := .glo "shortest_turn") rfl), let ⟨_, F⟩ := c.def_ 20 (d := dShort) rfl; F.kp⟩,
      fShort := c.def_ 20 (d := dShort) rfl,
      gLForm := ⟨He.glo_ok X G (c.fact 31 (f := .glo "least_form") rfl), let ⟨_, F⟩ := c.def_ 21 (d := dLForm) rfl; F.kp⟩,
      fLForm := c.def_ 21 (d := dLForm) rfl,
      fTinit := c.def_ 22 (d := dTinit) rfl,
      fWorthAt := c.def_ 23 (d := dWorthAt) rfl,
      gPen := ⟨He.glo_ok X G (c.fact 32 (f := .glo "_law_pen") rfl), let ⟨_, F⟩ := c.def_ 24 (d := dPen) rfl; F.kp⟩,
      fPen := c.def_ 24 (d := dPen) rfl,
      gDraw := ⟨He.glo_ok X G (c.fact 33 (f := .glo "_law_draw") rfl), let ⟨_, F⟩ := c.def_ 25 (d := dDraw) rfl; F.kp⟩,
      fDraw := c.def_ 25 (d := dDraw) rfl,
      gPick := ⟨He.glo_ok X G (c.fact 34 (f := .glo "_law_pick") rfl), let ⟨_, F⟩ := c.def_ 26 (d := dPick) rfl; F.kp⟩,
      fPick := c.def_ 26 (d := dPick) rfl,
      gLLeft := ⟨He.glo_ok X G (c.fact 35 (f := .glo "_law_left") rfl), let ⟨_, F⟩ := c.def_ 27 (d := dLLeft) rfl; F.kp⟩,
      fLLeft := c.def_ 27 (d := dLLeft) rfl,
      gTold := ⟨He.glo_ok X G (c.fact 36 (f := .glo "_law_told") rfl), let ⟨_, F⟩ := c.def_ 28 (d := dTold) rfl; F.kp⟩,
      fTold := c.def_ 28 (d := dTold) rfl,
      gAt := ⟨He.glo_ok X G (c.fact 37 (f := .glo "_law_at") rfl), let ⟨_, F⟩ := c.def_ 29 (d := dAt) rfl; F.kp⟩,
      fAt := c.def_ 29 (d := dAt) rfl,
      gWhole := ⟨He.glo_ok X G (c.fact 38 (f := .glo "_law_whole") rfl), let ⟨_, F⟩ := c.def_ 30 (d := dWhole) rfl; F.kp⟩,
      fWhole := c.def_ 30 (d := dWhole) rfl,
      gEnd := ⟨He.glo_ok X G (c.fact 39 (f := .glo "_law_end") rfl), let ⟨_, F⟩ := c.def_ 31 (d := dEnd) rfl; F.kp⟩,
      fEnd := c.def_ 31 (d := dEnd) rfl,
      gLBarred := ⟨He.glo_ok X G (c.fact 40 (f := .glo "_law_is_barred") rfl), let ⟨_, F⟩ := c.def_ 32 (d := dLBarred) rfl; F.kp⟩,
      fLBarred := c.def_ 32 (d := dLBarred) rfl,
      gDue := ⟨He.glo_ok X G (c.fact 41 (f := .glo "_law_due") rfl), let ⟨_, F⟩ := c.def_ 33 (d := dDue) rfl; F.kp⟩,
      fDue := c.def_ 33 (d := dDue) rfl,
      gHeard := ⟨He.glo_ok X G (c.fact 42 (f := .glo "_law_heard") rfl), let ⟨_, F⟩ := c.def_ 34 (d := dHeard) rfl; F.kp⟩,
      fHeard := c.def_ 34 (d := dHeard) rfl,
      gRight := ⟨He.glo_ok X G (c.fact 43 (f := .glo "_law_right") rfl), let ⟨_, F⟩ := c.def_ 35 (d := dRight) rfl; F.kp⟩,
      fRight := c.def_ 35 (d := dRight) rfl,
      gRefused := ⟨He.glo_ok X G (c.fact 44 (f := .glo "_law_refused_right") rfl), let ⟨_, F⟩ := c.def_ 36 (d := dRefused) rfl; F.kp⟩,
      fRefused := c.def_ 36 (d := dRefused) rfl,
      fLaw := c.def_ 37 (d := dLaw) rfl,
      mgRested := He.glo_ok X G (c.fact 48 (f := .glo "Rested") rfl),
      rdRested := ⟨(exAt h 0 rfl), (He.eqO_ok (exAt h 1 rfl))⟩,
      cvRested := ⟨(cvB_ok (exAt h 2 rfl)), rfl⟩,
      kpRested := let ⟨_, F⟩ := c.def_ 5 (d := dRested) rfl; F.kp,
      mgSized := He.glo_ok X G (c.fact 49 (f := .glo "Sized") rfl),
      rdSized := ⟨(exAt h 3 rfl), (He.eqO_ok (exAt h 4 rfl))⟩,
      cvSized := ⟨(cvB_ok (exAt h 5 rfl)), rfl⟩,
      kpSized := let ⟨_, F⟩ := c.def_ 6 (d := dSized) rfl; F.kp,
      mgFixed := He.glo_ok X G (c.fact 50 (f := .glo "Fixed") rfl),
      clFixed := He.cls_ok (c.fact 55 (f := .cls "Fixed") rfl),
      mkFixed := He.mkr_ok (c.fact 77 (f := .mkr "Fixed") rfl),
      mgFree := He.glo_ok X G (c.fact 51 (f := .glo "Free") rfl),
      clFree := He.cls_ok (c.fact 56 (f := .cls "Free") rfl),
      mgBarred := He.glo_ok X G (c.fact 52 (f := .glo "Barred") rfl),
      clBarred := He.cls_ok (c.fact 57 (f := .cls "Barred") rfl),
      mkBarred := He.mkr_ok (c.fact 79 (f := .mkr "Barred") rfl),
      mgTable := He.glo_ok X G (c.fact 53 (f := .glo "Table") rfl),
      clTable := He.cls_ok (c.fact 58 (f := .cls "Table") rfl),
      mkTable := He.mkr_ok (c.fact 80 (f := .mkr "Table") rfl),
      mkFree := by have h := He.mkr_ok (c.fact 78 (f := .mkr "Free") rfl); rw [sameI] at h; exact h,
      naSize := He.noat_ok (c.fact 59 (f := .noat "Fixed" "size") rfl),
      naLeave := He.noat_ok (c.fact 60 (f := .noat "Fixed" "leave") rfl),
      naRest := He.noat_ok (c.fact 61 (f := .noat "Fixed" "rest") rfl),
      naModulus := He.noat_ok (c.fact 62 (f := .noat "Fixed" "modulus") rfl),
      naStart := He.noat_ok (c.fact 63 (f := .noat "Fixed" "start") rfl),
      naReach := He.noat_ok (c.fact 64 (f := .noat "Fixed" "reach") rfl),
      naFRule := He.noat_ok (c.fact 65 (f := .noat "Free" "rule") rfl),
      naBRule := He.noat_ok (c.fact 66 (f := .noat "Barred" "rule") rfl),
      naBHeap := He.noat_ok (c.fact 67 (f := .noat "Barred" "heap") rfl),
      naBLeft := He.noat_ok (c.fact 68 (f := .noat "Barred" "left") rfl),
      naBegin := He.noat_ok (c.fact 69 (f := .noat "Table" "begin") rfl),
      naPeriod := He.noat_ok (c.fact 70 (f := .noat "Table" "period") rfl),
      naNumbers := He.noat_ok (c.fact 71 (f := .noat "Table" "numbers") rfl),
      mStands := He.meth_ok (c.fact 72 (f := .meth "Fixed" "stands_at") rfl),
      mLeft := He.meth_ok (c.fact 73 (f := .meth "Fixed" "left_at") rfl),
      mWorthAt := He.meth_ok (c.fact 76 (f := .meth "Table" "worth_at") rfl),
      bFree := (He.meth_ok (c.fact 74 (f := .meth "Free" "__bool__") rfl)).at_,
      iFree := (He.meth_ok (c.fact 74 (f := .meth "Free" "__bool__") rfl)).fn,
      bBarred := (He.meth_ok (c.fact 75 (f := .meth "Barred" "__bool__") rfl)).at_,
      iBarred := (He.meth_ok (c.fact 75 (f := .meth "Barred" "__bool__") rfl)).fn,
      icFixed := ⟨He.cls_ok (c.fact 55 (f := .cls "Fixed") rfl), (He.eqO_ok (exAt h 6 rfl)), (He.eqO_ok (exAt h 7 rfl)), (of_decide_eq_true (exAt h 8 rfl)), (of_decide_eq_true (exAt h 9 rfl)), (of_decide_eq_true (exAt h 10 rfl))⟩,
      mgFE := He.glo_ok X G (c.fact 47 (f := .glo "FreeError") rfl),
      exFE := He.exm_ok (c.fact 81 (f := .exm "BadRule" "FreeError" true) rfl),
      isB := (of_decide_eq_true (exAt h 11 rfl)),
      isV := (of_decide_eq_true (exAt h 12 rfl)),
      bad := bad,
      fBInit := binit }
theorem txt2_of {K : Frag} (c : He.SaysD fa fn K) (h : exA K = true) : Txt2 K (He.codeOf K ("_law_refused_right", none)) := by
  refine ⟨⟨(He.eqO_ok (exAt h 16 rfl)), (He.eqO_ok (exAt h 17 rfl)), (of_decide_eq_true (exAt h 22 rfl)), (exAt h 25 rfl), (He.eqO_ok (exAt h 30 rfl)), (He.eqO_ok (exAt h 7 rfl)), (of_decide_eq_true (exAt h 8 rfl)), (of_decide_eq_true (exAt h 31 rfl))⟩, (exAt h 32 rfl), ?_⟩
  obtain ⟨fd, F⟩ := c.def_ 36 (d := dRefused) rfl
  obtain ⟨oc, od, dV, kV, doc, pm, an, cdv, ct, osl, rfl, lk, hcd, hD, _⟩ := F.ex
  rcases hD with ⟨_, rfl⟩ | ⟨z, _⟩
  · obtain ⟨cc, rfl⟩ := He.codeIn_ref hcd
    have e : He.codeOf K ("_law_refused_right", none) = cc := He.codeOf_eq lk rfl
    rw [e]
    exact ⟨oc, kV, doc, pm, ct, od, an, osl, lk, hcd⟩
  · exact absurd rfl z
end FTH
/-! The head: one kernel run of the top, its Hook. -/
namespace FTH
open PySem PySem.Spec PyProof.Rows L2 FT
open PySem.W (Frag)
def tf : List He.Defn := [("_law_refused_right", none)]
def roots (g : Addr → Option Obj) : List Addr := rootNames.filterMap fun x => match PySem.W.nsIn (He.frG g [mainGlobals]) mainGlobals x with
  | some (some (.ref a)) => some a
  | _ => none
def asN (g : Addr → Option Obj) : Nat → List Addr
  | 0 => roots g
  | n + 1 => He.growD g (asN g n)
def frN (g : Addr → Option Obj) : Frag := He.frT g (mainGlobals :: cStatics :: asN g 3)
abbrev AlY : Type := He.AlD × FnC × FnC × Bool
def obsK (g : Addr → Option Obj) (K : Frag) : AlY := (He.obsD fa fn K, fnC K (mA K "BadRule" "__init__"), fnC K (mA K "Barred" "__init__"), exA K && He.tabsB g tf K)
def obsY (g : Addr → Option Obj) : AlY := obsK g (frN g)
def valY : AlY := (He.valD fn, valB, valR, true)
/-- what is told -/
structure SaysY (h : Heap) (K : Frag) : Prop where
  d : He.SaysD fa fn K
  b : fnC K (mA K "BadRule" "__init__") = valB
  r : fnC K (mA K "Barred" "__init__") = valR
  more : exA K = true
  hd : PySem.W.codeHdIn K (He.cT K ("_law_refused_right", none)).1 (He.cT K ("_law_refused_right", none)).2 = true
  out : K.lookup (He.cT K ("_law_refused_right", none)).2 = none
  empty : h.get? (He.cT K ("_law_refused_right", none)).2 = some { cls := .none, data := .fields #[] }
theorem saysY_of {h : Heap} (e : obsY h.get? = valY) : SaysY h (frN h.get?) := by
  have e1 : He.obsD fa fn (frN h.get?) = He.valD fn := congrArg (fun z : AlY => z.1) e
  have e2 : fnC (frN h.get?) (mA (frN h.get?) "BadRule" "__init__") = valB := congrArg (fun z : AlY => z.2.1) e
  have e3 : fnC (frN h.get?) (mA (frN h.get?) "Barred" "__init__") = valR := congrArg (fun z : AlY => z.2.2.1) e
  have e4 : (exA (frN h.get?) && He.tabsB h.get? tf (frN h.get?)) = true := congrArg (fun z : AlY => z.2.2.2) e
  obtain ⟨h1, h2⟩ := He.ba e4
  have h3 := List.all_eq_true.mp h2 ("_law_refused_right", none) (List.mem_singleton.mpr rfl)
  obtain ⟨h4, h5⟩ := He.ba h3
  cases q : h.get? (He.cT (frN h.get?) ("_law_refused_right", none)).2 with
  | none =>
    rw [q] at h5
    cases h5
  | some o =>
    rw [q] at h5
    exact ⟨e1, e2, e3, h1, h4, He.frT_none q h5, by rw [q, He.emptyTab_eq h5]⟩
def hk : PySem.W.Hook where
  α := AlY
  obs := fun s => obsY s.heap.get?
  val := fun _ => valY
  says := fun _ h => ∃ K : Frag, K.In h ∧ SaysY h K
  of := fun _ _ e => ⟨_, He.frT_in, saysY_of e⟩
  keeps := fun _ _ _ ⟨K, hK, c⟩ k => ⟨K, PySem.W.Frag.In.keeps hK k, ⟨c.d, c.b, c.r, c.more, c.hd, c.out, k _ _ c.empty⟩⟩
def ob (s : PySem.W.SharedT) : hk.α := obsY (HandSHeadRun.getT s)
theorem ob_eq (s : PySem.W.SharedT) : ob s = hk.obs s.abs := by
  have e : HandSHeadRun.getT s = s.abs.heap.get? := funext (HandSHeadRun.getT_eq s)
  show obsY (HandSHeadRun.getT s) = obsY s.abs.heap.get?
  rw [e]
abbrev R : PySem.W.OpenRow := PySem.W.OpenLaw.row PySem.Challenge.rw_freetakes_k30_whole_least_leaves
abbrev qv : Program := PySem.W.view R.prog [63]
def names1 : List PySem.Str := ["_wall", "FreeError", "BadRule", "BadSize", "BadTable", "NoTake", "BadText", "MOST_HEAP", "is_integer", "is_heap", "need_heap", "common_multiple", "MOST_NUMBER", "MOST_MODULUS", "FIGURES_rules", "need_part", "number_in", "rest_in", "leave_in", "rule_in", "rest_text", "Rule", "Rested", "Sized", "Fixed", "Down"]
def names2 : List PySem.Str := ["FreeAnswer", "Free", "Barred", "is_barred", "settled_from", "bars", "free", "is_free", "least_leave", "MOST_PARTS", "MOST_WORTH", "FIGURES_tables", "are_worths", "shortest_turn", "least_form", "worth_in", "rows_in", "Table", "_law_pen", "_law_draw", "_law_pick", "_law_left", "_law_told", "_law_at", "_law_whole", "_law_end", "_law_is_barred", "_law_due", "_law_heard", "_law_right", "_law_refused_right"]
def names : List PySem.Str := names1 ++ names2
theorem run (w : World) : HandSHeadRun.RunEq R qv hk ob 20000 names w := by
  intro os
  kernel_rfl
end FTH
/-! The end. -/
namespace FTH
open PySem PySem.Spec PyProof.Rows L2 FT
open PySem.W (Frag)
theorem law_at {w : World} {mg : Str → Option Value} {f : Addr} {h : Heap} (Y : ∃ K : Frag, K.In h ∧ SaysY h K) (G : h.Ns mainGlobals mg) (hmg : mg ("law" : Str) = some (.ref f)) :
    ∃ K : Frag, K.In h ∧ LamX.LawAtS PySem.Challenge.rw_freetakes_k30_whole_least_leaves w K L2.CX0 14 63 "_law_script" mg f h := by
  obtain ⟨K, KX, c⟩ := Y
  have T := txt_of KX G c.d c.more c.b c.r
  have T2 := txt2_of c.d c.more
  obtain ⟨fd, F⟩ := c.d.def_ 37 (d := dLaw) rfl
  have ef := hmg.symm.trans (He.glo_ok KX G (c.d.fact 45 (f := .glo "law") rfl))
  cases ef
  have b := FunD.bindsA (ps := ["_law_script"]) F fun _ _ _ _ _ _ us hl => match us, hl with | [_], _ => rfl
  refine ⟨K, KX, fd, [He.cT K ("_law_refused_right", none)], spLaw K (He.cT K ("_law_refused_right", none)).2, fun p hp => ?_, fun p hp => ?_, fun p hp => ?_, fun s u => b s [u] rfl, fun H a ns hl _ hT hS => ⟨a, ns, rfl, hS, fun x hx => ?_, fun _ => rfl⟩, fun base KB _ TB => ?_⟩
  · rw [List.mem_singleton.mp hp]; exact c.empty
  · rw [List.mem_singleton.mp hp]; exact c.out
  · rw [List.mem_singleton.mp hp]; exact PySem.W.codeHd_of_K KX c.hd
  · rw [List.mem_singleton.mp hx]; exact LamX.TabS.nil (hT _ (List.mem_singleton.mpr rfl))
  · exact ok_lawF T T2 KB (TB _ (List.mem_singleton.mpr rfl)) F
end FTH
open PySem PySem.W PySem.Calls PyProof.Rows
theorem PySem.Challenge.cw_freetakes_k30_whole_least_leaves_holds : PySem.Challenge.rw_freetakes_k30_whole_least_leaves.Holds := by
  w_on; o_law
  refine HandSHeadRun.head_any (r := OpenLaw.row PySem.Challenge.rw_freetakes_k30_whole_least_leaves) (q := FTH.qv) (H := FTH.hk) (ob := FTH.ob) (M := 20000) (loose := FTH.names) (d := HandSHeadRun.topDef (OpenLaw.row PySem.Challenge.rw_freetakes_k30_whole_least_leaves).prog 63) (kwd := []) FTH.ob_eq
    (by kernel_rfl) (fun s => by kernel_rfl) FTH.run (by kernel_rfl) (by kernel_rfl) (by kernel_rfl) (by rfl) (by first | assumption | decide +kernel) (by decide +kernel) ⟨rfl, rfl, rfl, rfl, rfl, by decide +kernel⟩ ?hw ?hc
  case hw => w_witness2
  case hc =>
    refine LamX.walk_ofTsE (l := PySem.Challenge.rw_freetakes_k30_whole_least_leaves) (n := 63) (k := 14) (x := "_law_script") (CX := fun _ => L2.CX0) rfl (by decide) (by kernel_rfl) ⟨rfl, by decide, by decide⟩ ?F (fun _ _ _ _ _ z => z)
    intro w mg fa h Y G hmg0
    have hmg : mg ("law" : PySem.Str) = some (.ref fa) := by
      have e : (HandSHeadRun.topDef (OpenLaw.row PySem.Challenge.rw_freetakes_k30_whole_least_leaves).prog 63).name = ("law" : PySem.Str) := by kernel_rfl
      rw [← e]
      exact hmg0
    exact FTH.law_at Y G hmg
