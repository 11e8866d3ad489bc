import PyProof.Rows.All
import Wide.All
import OpenK.AllK
import Wide.FinOn
import KE.KStateDown
import HandS.ForMost
import HandS.Defaults
import HandS.Wide
import HandS.Iter
import HandS.IsInst
import HandS.Conv
import HandS.NoneIn
import KE.GoesMore
import HandS.TryOnly
import HandS.Exc
import HandS.Sort
import HandS.More
import HandS.WideBits
import HandS.HeadHook1
import HandS.HeadHook2
import PyProof.SumAny
import PyProof.Rows.SumGenD
import HandS.MakeKw
import HandS.MakeKwOnly
import HandS.Head0
import HandS.Head1
import HandS.Head2
import HandS.HeadEnd
import PySem.Challenge.RW_sourcestold_k00_tables
set_option Elab.async false
set_option linter.all false
set_option maxRecDepth 100000
set_option maxHeartbeats 4000000
/-! TL1: kinds of data, the frozen heap, typed slots, judgements. -/
namespace Zk
open PySem PySem.Spec L2

/-! ### kinds of data -/
structure Ty (α : Type) where
  rep : Hp → V → α → Prop
  mono : ∀ {G G' : Hp} {v : V} {x : α}, Same G G' → rep G v x → rep G' v x
theorem rd_mono {G G' : Hp} {a : Addr} {u : HO} (s : Same G G') (h : Rd G a u) : Rd G' a u := by
  rcases h with h | ⟨o, h⟩
  · exact .inl (s _ _ h)
  · exact .inr ⟨o, s _ _ h⟩
theorem Paired.mono {α β : Type} {F F' : α → β → Prop} (h : ∀ a b, F a b → F' a b) : ∀ {l : List α} {m : List β}, Paired F l m → Paired F' l m
  | _, _, .nil => .nil
  | _, _, .cons r t => .cons (h _ _ r) (Paired.mono h t)
def tyI : Ty Int := ⟨fun _ v x => v = .int x, fun _ h => h⟩
def tyB : Ty Bool := ⟨fun _ v x => v = .bl x, fun _ h => h⟩
/-- every sign has its place -/
def sOk (x : Str) : Bool := x.cps.all (· < 0x110000)
def tyS : Ty Str := ⟨fun _ v x => v = .str x ∧ sOk x = true, fun _ h => h⟩
theorem sok_iff {x : Str} : sOk x = true ↔ ∀ c ∈ x.cps.toList, c < 0x110000 := by
  unfold sOk
  rw [← Array.all_toList, List.all_eq_true]
  exact ⟨fun h c hc => of_decide_eq_true (h c hc), fun h c hc => decide_eq_true (h c hc)⟩
theorem sok_app {a b : Str} (h : sOk a = true) (h' : sOk b = true) : sOk (a ++ b) = true := sok_iff.mpr fun c hc => by
  have hc : c ∈ (a.cps ++ b.cps).toList := hc
  rw [Array.toList_append] at hc
  exact (List.mem_append.mp hc).elim (sok_iff.mp h c) (sok_iff.mp h' c)
theorem sok_one {s : Str} {c : Nat} (h : sOk s = true) (hc : c ∈ s.cps.toList) : sOk ⟨#[c]⟩ = true := sok_iff.mpr fun d hd => by
  have hd : d ∈ [c] := hd
  rw [List.mem_singleton.mp hd]
  exact sok_iff.mp h c hc
def tyU : Ty Unit := ⟨fun _ v _ => v = .non, fun _ h => h⟩
def tyL {α : Type} (A : Ty α) : Ty (List α) where
  rep := fun G v xs => ∃ a vs, v = .ref a ∧ G a = some (.lst vs) ∧ Paired (A.rep G) vs xs
  mono := fun s ⟨a, vs, e, r, p⟩ => ⟨a, vs, e, s _ _ r, Paired.mono (fun _ _ => A.mono s) p⟩
/-- a tuple of many of one kind -/
def tyP {α : Type} (A : Ty α) : Ty (List α) where
  rep := fun G v xs => ∃ a vs, v = .ref a ∧ G a = some (.tup vs) ∧ Paired (A.rep G) vs xs
  mono := fun s ⟨a, vs, e, r, p⟩ => ⟨a, vs, e, s _ _ r, Paired.mono (fun _ _ => A.mono s) p⟩
/-- values in a row, each of its kind -/
structure Row (ρ : Type) where
  n : Nat
  rep : Hp → List V → ρ → Prop
  mono : ∀ {G G' : Hp} {vs : List V} {x : ρ}, Same G G' → rep G vs x → rep G' vs x
  len : ∀ {G : Hp} {vs : List V} {x : ρ}, rep G vs x → vs.length = n
def Row.nil : Row Unit := ⟨0, fun _ vs _ => vs = [], fun _ h => h, fun h => by rw [h]; rfl⟩
def Row.one {α : Type} (A : Ty α) : Row α where
  n := 1
  rep := fun G vs x => ∃ v, vs = [v] ∧ A.rep G v x
  mono := fun s ⟨v, e, r⟩ => ⟨v, e, A.mono s r⟩
  len := fun ⟨v, e, _⟩ => by rw [e]; rfl
def Row.cons {α ρ : Type} (A : Ty α) (R : Row ρ) : Row (α × ρ) where
  n := R.n + 1
  rep := fun G vs x => ∃ v r, vs = v :: r ∧ A.rep G v x.1 ∧ R.rep G r x.2
  mono := fun s ⟨v, r, e, h, q⟩ => ⟨v, r, e, A.mono s h, R.mono s q⟩
  len := fun ⟨v, r, e, h, q⟩ => by rw [e, List.length_cons, R.len q]
def tyT {ρ : Type} (R : Row ρ) : Ty ρ where
  rep := fun G v x => ∃ a vs, v = .ref a ∧ G a = some (.tup vs) ∧ R.rep G vs x
  mono := fun s ⟨a, vs, e, r, p⟩ => ⟨a, vs, e, s _ _ r, R.mono s p⟩
/-- a list of so many, each of its kind -/
def tyM {ρ : Type} (R : Row ρ) : Ty ρ where
  rep := fun G v x => ∃ a vs, v = .ref a ∧ G a = some (.lst vs) ∧ R.rep G vs x
  mono := fun s ⟨a, vs, e, r, p⟩ => ⟨a, vs, e, s _ _ r, R.mono s p⟩
def kvR {α : Type} (A : Ty α) (G : Hp) (p : Key × V) (q : Str × α) : Prop := (p.1 = .inr q.1 ∧ sOk q.1 = true) ∧ A.rep G p.2 q.2
def tyD {α : Type} (A : Ty α) : Ty (List (Str × α)) where
  rep := fun G v x => ∃ a ks, v = .ref a ∧ G a = some (.dK ks) ∧ Paired (kvR A G) ks x
  mono := fun s ⟨a, vs, e, r, p⟩ => ⟨a, vs, e, s _ _ r, Paired.mono (fun _ _ q => ⟨q.1, A.mono s q.2⟩) p⟩
def tyO {ρ : Type} (C : Addr) (ns : List Str) (R : Row ρ) : Ty ρ where
  rep := fun G v x => ∃ p dx vs, v = .ref p ∧ G p = some (.ins C dx (ns.zip vs)) ∧ R.rep G vs x
  mono := fun s ⟨p, dx, vs, e, r, q⟩ => ⟨p, dx, vs, e, s _ _ r, R.mono s q⟩
/-- the script's list -/
def tyZ (K : PySem.W.Frag) : Ty (List Int) where
  rep := fun G v xs => ∃ a, v = .ref a ∧ SqL K G a (xs.map V.int)
  mono := fun s ⟨a, e, r⟩ => ⟨a, e, r.imp (rd_mono s) id⟩
/-- None, or one -/
def tyN {α : Type} (A : Ty α) : Ty (Option α) where
  rep := fun G v x => match x with
    | none => v = .non
    | some y => A.rep G v y
  mono := fun {_ _ _ x} s h => match x, h with
    | none, h => h
    | some _, h => A.mono s h

/-! ### the law's own state: a list that changes -/
structure Zs where
  at_ : Option Addr
  ok : Hp → HO → Prop
  mono : ∀ {G G' : Hp} {o : HO}, Same G G' → ok G o → ok G' o
def Z0 : Zs := ⟨none, fun _ _ => True, fun _ h => h⟩
/-- H holds what G tells; a dict may be locked while a loop walks it -/
def Sub (G H : Hp) : Prop := ∀ b u, G b = some u → H b = some u ∨ ∃ o kvs, u = .dK kvs ∧ H b = some (.frz o u)
theorem Sub.free {G H : Hp} (s : Sub G H) {p : Addr} (h : H p = none) : G p = none := by
  cases q : G p with
  | none => rfl
  | some u =>
    rcases s p u q with e | ⟨_, _, _, e⟩ <;> (rw [h] at e; cases e)
theorem Same.sub {G H : Hp} (s : Same G H) : Sub G H := fun b u e => .inl (s b u e)
structure Wd (z : Zs) (G H : Hp) : Prop where
  gh : Sub G H
  zk : ∀ s, z.at_ = some s → G s = none ∧ ∃ o, H s = some o ∧ z.ok G o
structure Stp (z : Zs) (G H G' H' : Hp) : Prop where
  g : Same G G'
  h : ∀ a o, z.at_ ≠ some a → H a = some o → H' a = some o
  n : ∀ a o, H a = some o → G a = none → G' a = none
  t : ∀ a o, H a = some o → ∃ o', H' a = some o'
theorem Stp.refl (z : Zs) (G H : Hp) : Stp z G H G H := ⟨Same.refl _, fun _ _ _ e => e, fun _ _ _ e => e, fun _ _ e => ⟨_, e⟩⟩
theorem Stp.trans {z : Zs} {G H G1 H1 G2 H2 : Hp} (a : Stp z G H G1 H1) (b : Stp z G1 H1 G2 H2) : Stp z G H G2 H2 :=
  ⟨a.g.trans b.g, fun c o e h => b.h c o e (a.h c o e h), fun c o h e => by
    obtain ⟨o', h'⟩ := a.t c o h
    exact b.n c o' h' (a.n c o h e), fun c o h => by
    obtain ⟨o', h'⟩ := a.t c o h
    exact b.t c o' h'⟩
theorem Stp.lift {z : Zs} {G H G' H' : Hp} (a : Stp Z0 G H G' H') : Stp z G H G' H' :=
  ⟨a.g, fun c o _ h => a.h c o (fun q => nomatch q) h, a.n, a.t⟩
theorem Wd.z0 {z : Zs} {G H : Hp} (a : Wd z G H) : Wd Z0 G H := ⟨a.gh, fun _ e => nomatch e⟩
/-- behind a callee that leaves the state alone -/
theorem Wd.after0 {z : Zs} {G H G' H' : Hp} (a : Wd z G H) (w : Wd Z0 G' H') (b : Stp Z0 G H G' H') : Wd z G' H' :=
  ⟨w.gh, fun s e => by
    obtain ⟨h1, o, h2, h3⟩ := a.zk s e
    exact ⟨b.n s o h2 h1, o, b.h s o (fun q => nomatch q) h2, z.mono b.g h3⟩⟩
theorem same_upd {G H : Hp} {p : Addr} {o : HO} (s : Same G H) : Same (upd G p o) (upd H p o) := fun b u e => by
  by_cases hb : b = p
  · subst hb
    rw [upd_same] at e ⊢
    exact e
  · rw [upd_ne hb] at e ⊢
    exact s _ _ e
theorem sub_upd {G H : Hp} {p : Addr} {o : HO} (s : Sub G H) : Sub (upd G p o) (upd H p o) := fun b u e => by
  by_cases hb : b = p
  · subst hb
    rw [upd_same] at e ⊢
    exact .inl e
  · rw [upd_ne hb] at e ⊢
    exact s _ _ e
theorem same_new {H : Hp} {p : Addr} {o : HO} (h : H p = none) : Same H (upd H p o) := fun b u e => by
  rw [upd_ne (ne_of_none e h)]
  exact e
/-- a new object, frozen at once -/
theorem Stp.new {z : Zs} {G H : Hp} {p : Addr} {o : HO} (s : Sub G H) (h : H p = none) : Stp z G H (upd G p o) (upd H p o) :=
  ⟨same_new (s.free h), fun a u _ e => same_new h a u e, fun a u e g => by
    rw [upd_ne (ne_of_none e h)]
    exact g, fun a u e => ⟨u, same_new h a u e⟩⟩
theorem Wd.new {z : Zs} {G H : Hp} {p : Addr} {o : HO} (w : Wd z G H) (h : H p = none) : Wd z (upd G p o) (upd H p o) :=
  ⟨sub_upd w.gh, fun s e => by
    obtain ⟨h1, u, h2, h3⟩ := w.zk s e
    have ne := ne_of_none h2 h
    exact ⟨by rw [upd_ne ne]; exact h1, u, by rw [upd_ne ne]; exact h2, z.mono (same_new (w.gh.free h)) h3⟩⟩
/-- a new object that stays one's own -/
theorem Stp.own {z : Zs} {G H : Hp} {p : Addr} {o : HO} (h : H p = none) : Stp z G H G (upd H p o) :=
  ⟨Same.refl _, fun a u _ e => same_new h a u e, fun a u e g => g, fun a u e => ⟨u, same_new h a u e⟩⟩
theorem Wd.own {z : Zs} {G H : Hp} {p : Addr} {o : HO} (w : Wd z G H) (h : H p = none) : Wd z G (upd H p o) :=
  ⟨fun b u e => (w.gh b u e).imp (fun q => same_new h b u q) fun ⟨o, k, e1, e2⟩ => ⟨o, k, e1, same_new h b _ e2⟩, fun s e => by
    obtain ⟨h1, u, h2, h3⟩ := w.zk s e
    exact ⟨h1, u, same_new h _ _ h2, h3⟩⟩
/-- one's own object changes -/
theorem Wd.set {z : Zs} {G H : Hp} {p : Addr} {o : HO} (w : Wd z G H) (h : G p = none) (hz : z.at_ ≠ some p) : Wd z G (upd H p o) :=
  ⟨fun b u e => by rw [upd_ne (ne_of_none e h)]; exact w.gh b u e, fun s e => by
    obtain ⟨h1, u, h2, h3⟩ := w.zk s e
    refine ⟨h1, u, ?_, h3⟩
    rw [upd_ne (fun q => hz (by rw [← q]; exact e))]
    exact h2⟩
/-- one's own object is frozen -/
theorem Wd.frz {z : Zs} {G H : Hp} {p : Addr} {o : HO} (w : Wd z G H) (h : H p = some o) (hg : G p = none) (hz : z.at_ ≠ some p) : Wd z (upd G p o) H :=
  ⟨fun b u e => by
    by_cases hb : b = p
    · subst hb
      rw [upd_same] at e
      cases e
      exact .inl h
    · rw [upd_ne hb] at e
      exact w.gh b u e, fun s e => by
    obtain ⟨h1, u, h2, h3⟩ := w.zk s e
    refine ⟨?_, u, h2, z.mono (same_new hg) h3⟩
    rw [upd_ne (fun q => hz (by rw [← q]; exact e))]
    exact h1⟩

/-- two heaps as one -/
def jn (G R : Hp) : Hp := fun a => match R a with
  | some u => some u
  | none => G a
theorem jn_same {G R : Hp} (h : ∀ a u, R a = some u → G a = none) : Same G (jn G R) := fun a u e => by
  unfold jn
  cases q : R a with
  | none => exact e
  | some w => rw [h a w q] at e; cases e
theorem jn_in {G R : Hp} {a : Addr} {u : HO} (h : R a = some u) : jn G R a = some u := by unfold jn; rw [h]
/-- a kind of data whose lists stand in a region R of their own, all else in the frozen heap G -/
structure Ty2 (α : Type) where
  T : Ty α
  rep : Hp → Hp → V → α → Prop
  to : ∀ {G R : Hp} {v : V} {x : α}, (∀ a u, R a = some u → G a = none) → rep G R v x → T.rep (jn G R) v x
  mono : ∀ {G G' R R' : Hp} {v : V} {x : α}, Same G G' → Same R R' → rep G R v x → rep G' R' v x
structure Row2 (ρ : Type) where
  T : Row ρ
  rep : Hp → Hp → List V → ρ → Prop
  to : ∀ {G R : Hp} {vs : List V} {x : ρ}, (∀ a u, R a = some u → G a = none) → rep G R vs x → T.rep (jn G R) vs x
  mono : ∀ {G G' R R' : Hp} {vs : List V} {x : ρ}, Same G G' → Same R R' → rep G R vs x → rep G' R' vs x
abbrev t2N {α : Type} (A : Ty α) : Ty2 α := ⟨A, fun G _ v x => A.rep G v x, fun h r => A.mono (jn_same h) r, fun s _ r => A.mono s r⟩
abbrev t2L {α : Type} (A : Ty2 α) : Ty2 (List α) where
  T := tyL A.T
  rep := fun G R v xs => ∃ a vs, v = .ref a ∧ R a = some (.lst vs) ∧ Paired (A.rep G R) vs xs
  to := fun h ⟨a, vs, e, r, p⟩ => ⟨a, vs, e, jn_in r, Paired.mono (fun _ _ => A.to h) p⟩
  mono := fun s t ⟨a, vs, e, r, p⟩ => ⟨a, vs, e, t _ _ r, Paired.mono (fun _ _ => A.mono s t) p⟩
abbrev t2M {ρ : Type} (R2 : Row2 ρ) : Ty2 ρ where
  T := tyM R2.T
  rep := fun G R v x => ∃ a vs, v = .ref a ∧ R a = some (.lst vs) ∧ R2.rep G R vs x
  to := fun h ⟨a, vs, e, r, p⟩ => ⟨a, vs, e, jn_in r, R2.to h p⟩
  mono := fun s t ⟨a, vs, e, r, p⟩ => ⟨a, vs, e, t _ _ r, R2.mono s t p⟩
abbrev Row2.nil : Row2 Unit := ⟨Row.nil, fun _ _ vs _ => vs = [], fun _ h => h, fun _ _ h => h⟩
abbrev Row2.one {α : Type} (A : Ty2 α) : Row2 α := ⟨Row.one A.T, fun G R vs x => ∃ v, vs = [v] ∧ A.rep G R v x, fun h ⟨v, e, r⟩ => ⟨v, e, A.to h r⟩, fun s t ⟨v, e, r⟩ => ⟨v, e, A.mono s t r⟩⟩
abbrev Row2.cons {α ρ : Type} (A : Ty2 α) (B : Row2 ρ) : Row2 (α × ρ) :=
  ⟨Row.cons A.T B.T, fun G R vs x => ∃ v r, vs = v :: r ∧ A.rep G R v x.1 ∧ B.rep G R r x.2, fun h ⟨v, r, e, p, q⟩ => ⟨v, r, e, A.to h p, B.to h q⟩, fun s t ⟨v, r, e, p, q⟩ => ⟨v, r, e, A.mono s t p, B.mono s t q⟩⟩

/-! ### slots -/
structure Fz : Type 1 where
  {α : Type}
  A : Ty α
  x : α
def fzR (G : Hp) (fv : Str × V) (f : Str × Fz) : Prop := fv.1 = f.1 ∧ f.2.A.rep G fv.2 f.2.x
inductive FR (G : Hp) : List (Str × V) → List (Str × Fz) → Prop
  | nil : FR G [] []
  | cons {a b l m} : fzR G a b → FR G l m → FR G (a :: l) (b :: m)
theorem FR.mono {G G' : Hp} (s : Same G G') : ∀ {l m}, FR G l m → FR G' l m
  | _, _, .nil => .nil
  | _, _, .cons (b := b) r t => .cons ⟨r.1, b.2.A.mono s r.2⟩ (FR.mono s t)
inductive FV (G : Hp) : List V → List (Str × Fz) → Prop
  | nil : FV G [] []
  | cons {a b l m} : b.2.A.rep G a b.2.x → FV G l m → FV G (a :: l) (b :: m)
inductive Sl : Type 1
  | no
  | fz {α : Type} (A : Ty α) (x : α)
  | ml {α : Type} (A : Ty α) (xs : List α)
  | md {α : Type} (A : Ty α) (kvs : List (Str × α))
  | st
  | ob (p C : Addr) (fs : List (Str × Fz))
  | mx (p : Addr) {ρ : Type} (R : Row ρ) (x : ρ)
  | rg (R R' : Hp) (n : Bool) (c : Nat) {α : Type} (A : Ty2 α) (x : α)
def Sl.own : Sl → Bool
  | .ml _ _ => true
  | .md _ _ => true
  | .ob _ _ _ => true
  | .mx _ _ _ => true
  | .rg _ _ _ _ _ _ => true
  | _ => false
/-- the addresses that a slot owns -/
def Sl.fp : Sl → Option V → Addr → Prop
  | .no, _, _ => False
  | .fz _ _, _, _ => False
  | .st, _, _ => False
  | .ml _ _, o, a => o = some (.ref a)
  | .md _ _, o, a => o = some (.ref a)
  | .ob _ _ _, o, a => o = some (.ref a)
  | .mx _ _ _, o, a => o = some (.ref a)
  | .rg _ R' _ _ _ _, _, a => R' a ≠ none
theorem fp_own {S : Sl} {o : Option V} {a : Addr} (h : S.fp o a) (hn : S.own = false) : False := by
  cases S with
  | no => exact h
  | fz A x => exact h
  | st => exact h
  | ml A xs => cases hn
  | md A xs => cases hn
  | ob p C fs => cases hn
  | mx p R x => cases hn
  | rg R R' n c A x => cases hn
/-- a slot that owns at most the object it holds -/
def Sl.adr : Sl → Bool
  | .rg _ _ _ _ _ _ => false
  | _ => true
theorem fp_adr {S : Sl} {p l : Addr} (h : S.fp (some (.ref p)) l) (hn : S.adr = true) : l = p := by
  cases S with
  | no => exact h.elim
  | fz A x => exact h.elim
  | st => exact h.elim
  | ml A xs => injection (show some (V.ref p) = some (V.ref l) from h) with h; injection h with h; exact h.symm
  | md A xs => injection (show some (V.ref p) = some (V.ref l) from h) with h; injection h with h; exact h.symm
  | ob p C fs => injection (show some (V.ref _) = some (V.ref l) from h) with h; injection h with h; exact h.symm
  | mx p R x => injection (show some (V.ref _) = some (V.ref l) from h) with h; injection h with h; exact h.symm
  | rg R R' n c A x => cases hn
/-- a value changed, but of the same kind; lists stay -/
structure Kd (R : Hp) (v v' : V) : Prop where
  int : ∀ i, v = .int i → ∃ j, v' = .int j
  str : ∀ i, v = .str i → ∃ j, v' = .str j
  lst : ∀ b vs, v = .ref b → R b = some (.lst vs) → v' = v
def SkV (c : Nat) (R : Hp) (vs vs' : List V) : Prop := (vs.length ≤ vs'.length ∧ vs'.length ≤ vs.length + c) ∧ ∀ (i : Nat) v, vs[i]? = some v → ∃ v', vs'[i]? = some v' ∧ Kd R v v'
structure Skel (c : Nat) (R R' : Hp) : Prop where
  dom : ∀ a, R a = none ↔ R' a = none
  lst : ∀ a vs, R a = some (.lst vs) → ∃ vs', R' a = some (.lst vs') ∧ SkV c R vs vs'
  only : ∀ a u, R a = some u → ∃ vs, u = .lst vs
theorem Kd.refl (R : Hp) (v : V) : Kd R v v := ⟨fun i h => ⟨i, h⟩, fun i h => ⟨i, h⟩, fun _ _ _ _ => rfl⟩
theorem Skel.refl (R : Hp) (h : ∀ a u, R a = some u → ∃ vs, u = .lst vs) : Skel 0 R R := ⟨fun _ => Iff.rfl, fun a vs h => ⟨vs, h, ⟨Nat.le_refl _, Nat.le_refl _⟩, fun i v e => ⟨v, e, Kd.refl _ _⟩⟩, h⟩
/-- the list v is as long as it was -/
def FixL (R R' : Hp) (v : V) : Prop := ∀ l vs vs', v = .ref l → R l = some (.lst vs) → R' l = some (.lst vs') → vs.length = vs'.length
theorem FixL.refl (R : Hp) (v : V) : FixL R R v := fun l vs vs' _ h h' => by rw [h] at h'; cases h'; rfl
structure Own (z : Zs) (H0 G H : Hp) (l : Addr) (o : HO) : Prop where
  g : G l = none
  z : z.at_ ≠ some l
  h0 : H0 l = none
  h : H l = some o
def SlOk (z : Zs) (H0 G H : Hp) (o : Option V) : Sl → Prop
  | .no => True
  | .fz A x => ∃ v, o = some v ∧ A.rep G v x
  | .ml A xs => ∃ l vs, o = some (.ref l) ∧ Own z H0 G H l (.lst vs) ∧ Paired (A.rep G) vs xs
  | .md A kvs => ∃ l ks, o = some (.ref l) ∧ Own z H0 G H l (.dK ks) ∧ Paired (kvR A G) ks kvs
  | .st => ∃ s, z.at_ = some s ∧ o = some (.ref s)
  | .ob p C fs => ∃ dx vs, o = some (.ref p) ∧ Own z H0 G H p (.ins C dx vs) ∧ FR G vs fs
  | .mx p R x => ∃ vs, o = some (.ref p) ∧ Own z H0 G H p (.lst vs) ∧ R.rep G vs x
  | .rg R R' n c A x => ∃ v, o = some v ∧ A.rep G R v x ∧ Skel c R R' ∧ (∀ a u, R' a = some u → Own z H0 G H a u) ∧ (n = true → FixL R R' v)
structure Ev (z : Zs) (G0 H0 G H : Hp) (σ : St) (Γ : List Sl) : Prop where
  wd : Wd z G H
  base : Stp z G0 H0 G H
  len : σ.length = Γ.length
  sl : ∀ (i : Nat) (S : Sl) (o : Option V), Γ[i]? = some S → σ[i]? = some o → SlOk z H0 G H o S
  ap : ∀ (i j : Nat) (S T : Sl) (o o' : Option V) (l : Addr), i ≠ j → Γ[i]? = some S → Γ[j]? = some T → σ[i]? = some o → σ[j]? = some o' → S.fp o l → T.fp o' l → False
section
variable {z : Zs} {G0 H0 G H G' H' : Hp} {σ : St} {Γ Γ' : List Sl} {o : Option V}
theorem Own.step {l : Addr} {u : HO} (h : Own z H0 G H l u) (s : Stp z G H G' H') : Own z H0 G' H' l u := ⟨s.n l u h.h h.g, h.z, h.h0, s.h l u h.z h.h⟩
theorem SlOk.step {S : Sl} (h : SlOk z H0 G H o S) (s : Stp z G H G' H') : SlOk z H0 G' H' o S := by
  cases S with
  | no => trivial
  | fz A x => obtain ⟨v, e, r⟩ := h; exact ⟨v, e, A.mono s.g r⟩
  | ml A xs => obtain ⟨l, vs, e, r, p⟩ := h; exact ⟨l, vs, e, r.step s, Paired.mono (fun _ _ => A.mono s.g) p⟩
  | md A xs => obtain ⟨l, vs, e, r, p⟩ := h; exact ⟨l, vs, e, r.step s, Paired.mono (fun _ _ q => ⟨q.1, A.mono s.g q.2⟩) p⟩
  | st => exact h
  | ob p C fs => obtain ⟨dx, vs, e, r, q⟩ := h; exact ⟨dx, vs, e, r.step s, FR.mono s.g q⟩
  | mx p R x => obtain ⟨vs, e, r, q⟩ := h; exact ⟨vs, e, r.step s, R.mono s.g q⟩
  | rg R R' n c A x => obtain ⟨v, e, r, k, q, f⟩ := h; exact ⟨v, e, A.mono s.g (Same.refl _) r, k, fun a u e => (q a u e).step s, f⟩
theorem Ev.step (E : Ev z G0 H0 G H σ Γ) (w : Wd z G' H') (s : Stp z G H G' H') : Ev z G0 H0 G' H' σ Γ :=
  ⟨w, E.base.trans s, E.len, fun i S o h1 h2 => (E.sl i S o h1 h2).step s, E.ap⟩
theorem get_set {α : Type _} {l : List α} {i : Nat} {x y : α} (h : (l.set i x)[i]? = some y) : x = y := by
  rw [List.getElem?_set_self'] at h
  cases q : l[i]? with
  | none => rw [q] at h; cases h
  | some _ => rw [q] at h; exact Option.some.inj h
/-- a slot takes what no other slot owns -/
theorem Ev.setOwn (E : Ev z G0 H0 G H σ Γ) (i : Nat) {S : Sl} {o : Option V} (hS : SlOk z H0 G H o S)
    (hp : ∀ (j : Nat) T o' l, i ≠ j → Γ[j]? = some T → σ[j]? = some o' → S.fp o l → T.fp o' l → False) : Ev z G0 H0 G H (σ.set i o) (Γ.set i S) := by
  refine ⟨E.wd, E.base, by rw [List.length_set, List.length_set]; exact E.len, fun j T o h1 h2 => ?_, fun j k T U o1 o2 l hjk h1 h2 h3 h4 h5 h6 => ?_⟩
  · by_cases hj : i = j
    · subst hj
      rw [← get_set h1, ← get_set h2]
      exact hS
    · rw [List.getElem?_set_ne hj] at h1 h2
      exact E.sl j T o h1 h2
  · by_cases hj : i = j
    · by_cases hk : i = k
      · exact hjk (hj.symm.trans hk)
      · subst hj
        rw [← get_set h1, ← get_set h3] at h5
        rw [List.getElem?_set_ne hk] at h2 h4
        exact hp k U o2 l hk h2 h4 h5 h6
    · rw [List.getElem?_set_ne hj] at h1 h3
      by_cases hk : i = k
      · subst hk
        rw [← get_set h2, ← get_set h4] at h6
        exact hp j T o1 l hj h1 h3 h6 h5
      · rw [List.getElem?_set_ne hk] at h2 h4
        exact E.ap j k T U o1 o2 l hjk h1 h2 h3 h4 h5 h6
/-- a slot forgotten or changed -/
theorem Ev.set (E : Ev z G0 H0 G H σ Γ) (i : Nat) {S : Sl} {v : V} (hS : SlOk z H0 G H (some v) S) (hn : S.own = false) : Ev z G0 H0 G H (σ.set i (some v)) (Γ.set i S) :=
  E.setOwn i hS fun j T o' l _ _ _ h _ => fp_own h hn
theorem Ev.fz (E : Ev z G0 H0 G H σ Γ) (i : Nat) {α : Type} {A : Ty α} {x : α} {v : V} (h : A.rep G v x) : Ev z G0 H0 G H (σ.set i (some v)) (Γ.set i (.fz A x)) := E.set i ⟨v, rfl, h⟩ rfl
theorem SlOk.tracked {S : Sl} {o : Option V} {p : Addr} (h : SlOk z H0 G H o S) (hs : S.fp o p) : ∃ u, Own z H0 G H p u := by
  cases S with
  | no => exact hs.elim
  | fz A x => exact hs.elim
  | ml A xs => obtain ⟨l, vs, e, r, q⟩ := h; cases e.symm.trans (show o = some (.ref p) from hs); exact ⟨_, r⟩
  | md A xs => obtain ⟨l, vs, e, r, q⟩ := h; cases e.symm.trans (show o = some (.ref p) from hs); exact ⟨_, r⟩
  | st => exact hs.elim
  | ob p C fs => obtain ⟨dx, vs, e, r, q⟩ := h; cases e.symm.trans (show o = some (.ref _) from hs); exact ⟨_, r⟩
  | mx p R x => obtain ⟨vs, e, r, q⟩ := h; cases e.symm.trans (show o = some (.ref _) from hs); exact ⟨_, r⟩
  | rg R R' n c A x =>
    obtain ⟨v, e, r, k, q, f⟩ := h
    cases qq : R' p with
    | none => exact absurd qq hs
    | some u => exact ⟨u, q p u qq⟩
/-- a new object at p goes into slot i as one's own -/
theorem Ev.newOwn (E : Ev z G0 H0 G H σ Γ) (i : Nat) {S : Sl} {p : Addr} {u : HO} (hp : H p = none) (hS : SlOk z H0 G (upd H p u) (some (.ref p)) S) (ha : S.adr = true := by rfl) : Ev z G0 H0 G (upd H p u) (σ.set i (some (.ref p))) (Γ.set i S) := by
  refine (E.step (E.wd.own hp) (Stp.own hp)).setOwn i hS fun j T o' l hj h1 h2 h3 h4 => ?_
  have e := fp_adr h3 ha
  subst e
  have q := E.sl j T _ h1 h2
  obtain ⟨u', o'⟩ := q.tracked h4
  rw [o'.h] at hp
  cases hp
/-- H0 does not hold what is new -/
theorem Ev.h0new (E : Ev z G0 H0 G H σ Γ) {p : Addr} (hp : H p = none) : H0 p = none := by
  cases q : H0 p with
  | none => rfl
  | some u =>
    obtain ⟨u', e⟩ := E.base.t p u q
    rw [hp] at e
    cases e
theorem Ev.znew (E : Ev z G0 H0 G H σ Γ) {p : Addr} (hp : H p = none) : z.at_ ≠ some p := fun q => by
  obtain ⟨_, u, e, _⟩ := E.wd.zk p q
  rw [hp] at e
  cases e
theorem Ev.ownNew (E : Ev z G0 H0 G H σ Γ) {p : Addr} {u : HO} (hp : H p = none) : Own z H0 G (upd H p u) p u := ⟨E.wd.gh.free hp, E.znew hp, E.h0new hp, upd_same⟩
/-- a slot that owns nothing of p stays when p changes -/
theorem SlOk.apart {T : Sl} {o : Option V} {p : Addr} {u' : HO} (q : SlOk z H0 G H o T) (nf : ¬ T.fp o p) : SlOk z H0 G (upd H p u') o T := by
  have mv : ∀ {l : Addr} {w : HO}, Own z H0 G H l w → l ≠ p → Own z H0 G (upd H p u') l w := fun {l w} r nl => ⟨r.g, r.z, r.h0, by rw [upd_ne nl]; exact r.h⟩
  cases T with
  | no => trivial
  | fz A x => exact q
  | st => exact q
  | ml A xs => obtain ⟨l, vs, e, r, y⟩ := q; exact ⟨l, vs, e, mv r fun ee => nf (by rw [← ee]; exact e), y⟩
  | md A xs => obtain ⟨l, vs, e, r, y⟩ := q; exact ⟨l, vs, e, mv r fun ee => nf (by rw [← ee]; exact e), y⟩
  | ob l C fs => obtain ⟨dx, vs, e, r, y⟩ := q; exact ⟨dx, vs, e, mv r fun ee => nf (by rw [← ee]; exact e), y⟩
  | mx l R x => obtain ⟨vs, e, r, y⟩ := q; exact ⟨vs, e, mv r fun ee => nf (by rw [← ee]; exact e), y⟩
  | rg R R' n c A x => obtain ⟨v, e, r, k, y, f⟩ := q; exact ⟨v, e, r, k, fun a u ha => mv (y a u ha) (fun ee => nf (by rw [← ee]; show R' a ≠ none; rw [ha]; intro z; cases z)), f⟩
/-- an own object of slot i changes -/
theorem Ev.mut (E : Ev z G0 H0 G H σ Γ) {i : Nat} {S S' : Sl} {o : Option V} {p : Addr} {u : HO} (hi : Γ[i]? = some S) (hσ : σ[i]? = some o) (hF : S.fp o p) (hp : Own z H0 G H p u) {u' : HO} (hS : SlOk z H0 G (upd H p u') o S') (hF' : ∀ l, S'.fp o l → S.fp o l := by exact fun _ h => h) :
    Ev z G0 H0 G (upd H p u') σ (Γ.set i S') := by
  have st : ∀ a o, z.at_ ≠ some a → H0 a = some o → (upd H p u') a = some o := fun a o hz h => by
    rw [upd_ne (ne_of_none h hp.h0)]
    exact E.base.h a o hz h
  refine ⟨E.wd.set hp.g hp.z, ⟨E.base.g, st, E.base.n, fun a o h => ?_⟩, by rw [List.length_set]; exact E.len, fun j T o' h1 h2 => ?_, fun j k T U o1 o2 l hjk h1 h2 h3 h4 h5 h6 => ?_⟩
  · obtain ⟨o', e⟩ := E.base.t a o h
    by_cases ha : a = p
    · subst ha; exact ⟨u', upd_same⟩
    · exact ⟨o', by rw [upd_ne ha]; exact e⟩
  · by_cases hj : i = j
    · subst hj
      rw [← get_set h1]
      rw [hσ] at h2
      cases h2
      exact hS
    · rw [List.getElem?_set_ne hj] at h1
      exact (E.sl j T o' h1 h2).apart fun hf => E.ap i j S T o o' p hj hi h1 hσ h2 hF hf
  · by_cases hj : i = j
    · by_cases hk : i = k
      · exact hjk (hj.symm.trans hk)
      · subst hj
        rw [← get_set h1] at h5
        rw [List.getElem?_set_ne hk] at h2
        rw [hσ] at h3
        cases h3
        exact E.ap i k S U o o2 l hk hi h2 hσ h4 (hF' l h5) h6
    · rw [List.getElem?_set_ne hj] at h1
      by_cases hk : i = k
      · subst hk
        rw [← get_set h2] at h6
        rw [hσ] at h4
        cases h4
        exact E.ap i j S T o o1 l hj hi h1 hσ h3 (hF' l h6) h5
      · rw [List.getElem?_set_ne hk] at h2
        exact E.ap j k T U o1 o2 l hjk h1 h2 h3 h4 h5 h6
/-- what is known of a slot by its place -/
theorem Ev.at_ (E : Ev z G0 H0 G H σ Γ) {i : Nat} {S : Sl} (h : Γ[i]? = some S) : ∃ o, σ[i]? = some o ∧ SlOk z H0 G H o S := by
  have hl : i < σ.length := by
    rw [E.len]
    exact (List.getElem?_eq_some_iff.mp h).1
  exact ⟨σ[i], List.getElem?_eq_getElem hl, E.sl i S _ h (List.getElem?_eq_getElem hl)⟩
/-- a slot that owns nothing of p stays when p is frozen -/
theorem SlOk.frozen {T : Sl} {o : Option V} {D : Hp} (q : SlOk z H0 G H o T) (sg : Same G (jn G D)) (nf : ∀ p, D p ≠ none → ¬ T.fp o p) : SlOk z H0 (jn G D) H o T := by
  have mv : ∀ {l : Addr} {w : HO}, Own z H0 G H l w → T.fp o l → Own z H0 (jn G D) H l w := fun {l w} r hf => ⟨by
    show jn G D l = none
    unfold jn
    cases e : D l with
    | none => exact r.g
    | some x => exact absurd hf (nf l (by rw [e]; intro z; cases z)), r.z, r.h0, r.h⟩
  cases T with
  | no => trivial
  | fz A x => obtain ⟨v, e, r⟩ := q; exact ⟨v, e, A.mono sg r⟩
  | st => exact q
  | ml A xs => obtain ⟨l, vs, e, r, y⟩ := q; exact ⟨l, vs, e, mv r e, Paired.mono (fun _ _ => A.mono sg) y⟩
  | md A xs => obtain ⟨l, vs, e, r, y⟩ := q; exact ⟨l, vs, e, mv r e, Paired.mono (fun _ _ w => ⟨w.1, A.mono sg w.2⟩) y⟩
  | ob l C fs => obtain ⟨dx, vs, e, r, y⟩ := q; exact ⟨dx, vs, e, mv r e, FR.mono sg y⟩
  | mx l R x => obtain ⟨vs, e, r, y⟩ := q; exact ⟨vs, e, mv r e, R.mono sg y⟩
  | rg R R' n c A x => obtain ⟨v, e, r, k, y, f⟩ := q; exact ⟨v, e, A.mono sg (Same.refl _) r, k, fun a u ha => mv (y a u ha) (by show R' a ≠ none; rw [ha]; intro z; cases z), f⟩
/-- objects of slot i are frozen -/
theorem Ev.freezeD (E : Ev z G0 H0 G H σ Γ) {i : Nat} {S S' : Sl} {o : Option V} {D : Hp} (hi : Γ[i]? = some S) (hσ : σ[i]? = some o) (hF : ∀ p, D p ≠ none → S.fp o p) (hp : ∀ p u, D p = some u → Own z H0 G H p u) (hn : S'.own = false) (hS : SlOk z H0 (jn G D) H o S') :
    Same G (jn G D) ∧ Ev z G0 H0 (jn G D) H σ (Γ.set i S') := by
  have at_ : ∀ {a u}, jn G D a = some u → D a = some u ∨ (D a = none ∧ G a = some u) := fun {a u} e => by
    unfold jn at e
    cases q : D a with
    | none => rw [q] at e; exact .inr ⟨rfl, e⟩
    | some w => rw [q] at e; exact .inl e
  have sg : Same G (jn G D) := fun a u e => by
    unfold jn
    cases q : D a with
    | none => exact e
    | some w =>
      have := (hp a w q).g
      rw [e] at this
      cases this
  refine ⟨sg, ⟨fun b u e => ?_, fun s es => ?_⟩, ⟨E.base.g.trans sg, E.base.h, fun a o h g => ?_, E.base.t⟩, by rw [List.length_set]; exact E.len, fun j T o' h1 h2 => ?_, fun j k T U o1 o2 l hjk h1 h2 h3 h4 h5 h6 => ?_⟩
  · rcases at_ e with e | ⟨_, e⟩
    · exact .inl (hp b u e).h
    · exact E.wd.gh b u e
  · obtain ⟨h1, u, h2, h3⟩ := E.wd.zk s es
    refine ⟨?_, u, h2, z.mono sg h3⟩
    unfold jn
    cases q : D s with
    | none => exact h1
    | some w => exact absurd es (hp s w q).z
  · have g' := E.base.n a o h g
    unfold jn
    cases q : D a with
    | none => exact g'
    | some w =>
      have := (hp a w q).h0
      rw [h] at this
      cases this
  · by_cases hj : i = j
    · subst hj
      rw [← get_set h1]
      rw [hσ] at h2
      cases h2
      exact hS
    · rw [List.getElem?_set_ne hj] at h1
      exact (E.sl j T o' h1 h2).frozen sg fun p hp' hf => E.ap i j S T o o' p hj hi h1 hσ h2 (hF p hp') hf
  · by_cases hj : i = j
    · subst hj
      rw [← get_set h1] at h5
      exact fp_own h5 hn
    · by_cases hk : i = k
      · subst hk
        rw [← get_set h2] at h6
        exact fp_own h6 hn
      · rw [List.getElem?_set_ne hj] at h1
        rw [List.getElem?_set_ne hk] at h2
        exact E.ap j k T U o1 o2 l hjk h1 h2 h3 h4 h5 h6
def one (p : Addr) (u : HO) : Hp := upd (fun _ => none) p u
theorem jn_one {p : Addr} {u : HO} : jn G (one p u) = upd G p u := by
  funext a
  unfold jn one
  by_cases h : a = p
  · subst h; rw [upd_same, upd_same]
  · rw [upd_ne h, upd_ne h]
/-- the own object of slot i is frozen -/
theorem Ev.freeze (E : Ev z G0 H0 G H σ Γ) {i : Nat} {S S' : Sl} {o : Option V} {p : Addr} {u : HO} (hi : Γ[i]? = some S) (hσ : σ[i]? = some o) (hF : S.fp o p) (hp : Own z H0 G H p u) (hn : S'.own = false) (hS : SlOk z H0 (upd G p u) H o S') :
    Ev z G0 H0 (upd G p u) H σ (Γ.set i S') := by
  have e0 : ∀ {q w}, one p u q = some w → q = p ∧ w = u := fun {q w} e => by
    unfold one at e
    by_cases h : q = p
    · subst h; rw [upd_same] at e; exact ⟨rfl, (Option.some.inj e).symm⟩
    · rw [upd_ne h] at e; cases e
  rw [← jn_one] at hS ⊢
  refine (E.freezeD hi hσ (fun q hq => ?_) (fun q w e => ?_) hn hS).2
  · cases e : one p u q with
    | none => exact absurd e hq
    | some w => rw [(e0 e).1]; exact hF
  · obtain ⟨h1, h2⟩ := e0 e
    rw [h1, h2]; exact hp
end

/-! ### conversions of the slots -/
/-- whoever has Γ has Γ' -/
def Cv (Γ Γ' : List Sl) : Prop := ∀ z G0 H0 G H σ, Ev z G0 H0 G H σ Γ → ∃ G', Same G G' ∧ Ev z G0 H0 G' H σ Γ'
theorem Cv.refl (Γ : List Sl) : Cv Γ Γ := fun _ _ _ G _ _ E => ⟨G, Same.refl _, E⟩
theorem Cv.trans {Γ Γ1 Γ2 : List Sl} (a : Cv Γ Γ1) (b : Cv Γ1 Γ2) : Cv Γ Γ2 := fun z G0 H0 G H σ E => by
  obtain ⟨G1, s1, E1⟩ := a z G0 H0 G H σ E
  obtain ⟨G2, s2, E2⟩ := b z G0 H0 G1 H σ E1
  exact ⟨G2, s1.trans s2, E2⟩
/-- slots forgotten -/
inductive Wk : List Sl → List Sl → Prop
  | nil : Wk [] []
  | no {S Γ Γ'} : Wk Γ Γ' → Wk (S :: Γ) (.no :: Γ')
  | same {S Γ Γ'} : Wk Γ Γ' → Wk (S :: Γ) (S :: Γ')
theorem Wk.len : ∀ {Γ Γ' : List Sl}, Wk Γ Γ' → Γ.length = Γ'.length
  | _, _, .nil => rfl
  | _, _, .no t => congrArg Nat.succ t.len
  | _, _, .same t => congrArg Nat.succ t.len
theorem Wk.at_ : ∀ {Γ Γ' : List Sl}, Wk Γ Γ' → ∀ {i : Nat} {S : Sl}, Γ'[i]? = some S → S = .no ∨ Γ[i]? = some S
  | _, _, .nil, i, S, h => by simp at h
  | _, _, .no t, 0, S, h => by
    have e : Sl.no = S := Option.some.inj h
    exact .inl e.symm
  | _, _, .same t, 0, S, h => .inr h
  | _, _, .no t, i + 1, S, h => t.at_ (i := i) h
  | _, _, .same t, i + 1, S, h => t.at_ (i := i) h
theorem Wk.cv {Γ Γ' : List Sl} (w : Wk Γ Γ') : Cv Γ Γ' := fun z G0 H0 G H σ E => by
  refine ⟨G, Same.refl _, E.wd, E.base, by rw [← w.len]; exact E.len, fun i S o h1 h2 => ?_, fun i j S T o1 o2 l hij h1 h2 h3 h4 h5 h6 => ?_⟩
  · rcases w.at_ h1 with e | e
    · subst e; trivial
    · exact E.sl i S o e h2
  · rcases w.at_ h1 with e | e1
    · subst e; exact h5.elim
    · rcases w.at_ h2 with e | e2
      · subst e; exact h6.elim
      · exact E.ap i j S T o1 o2 l hij e1 e2 h3 h4 h5 h6
theorem cv_ml {Γ : List Sl} (i : Nat) {α : Type} {A : Ty α} {xs : List α} (h : Γ[i]? = some (.ml A xs)) : Cv Γ (Γ.set i (.fz (tyL A) xs)) := fun z G0 H0 G H σ E => by
  obtain ⟨o, e, l, vs, rfl, r, p⟩ := E.at_ h
  have sg : Same G (upd G l (.lst vs)) := same_new r.g
  exact ⟨_, sg, E.freeze h e rfl r rfl ⟨_, rfl, l, vs, rfl, upd_same, Paired.mono (fun _ _ => A.mono sg) p⟩⟩
theorem cv_md {Γ : List Sl} (i : Nat) {α : Type} {A : Ty α} {xs : List (Str × α)} (h : Γ[i]? = some (.md A xs)) : Cv Γ (Γ.set i (.fz (tyD A) xs)) := fun z G0 H0 G H σ E => by
  obtain ⟨o, e, l, vs, rfl, r, p⟩ := E.at_ h
  have sg : Same G (upd G l (.dK vs)) := same_new r.g
  exact ⟨_, sg, E.freeze h e rfl r rfl ⟨_, rfl, l, vs, rfl, upd_same, Paired.mono (fun _ _ q => ⟨q.1, A.mono sg q.2⟩) p⟩⟩
theorem fz_split {G : Hp} : ∀ {vs : List (Str × V)} {fs : List (Str × Fz)}, FR G vs fs → vs = (fs.map (·.1)).zip (vs.map (·.2)) ∧ FV G (vs.map (·.2)) fs
  | _, _, .nil => ⟨rfl, .nil⟩
  | (a, b) :: vs, f :: fs, .cons r t => by
    obtain ⟨h1, h2⟩ := fz_split t
    refine ⟨?_, .cons r.2 h2⟩
    show (a, b) :: vs = (f.1, b) :: (fs.map (·.1)).zip (vs.map (·.2))
    rw [← h1, show a = f.1 from r.1]
theorem cv_ob {Γ : List Sl} (i : Nat) {p C : Addr} {fs : List (Str × Fz)} {ns : List Str} {ρ : Type} {R : Row ρ} {x : ρ} (h : Γ[i]? = some (.ob p C fs)) (hn : fs.map (·.1) = ns) (hR : ∀ G vs, FV G vs fs → R.rep G vs x) : Cv Γ (Γ.set i (.fz (tyO C ns R) x)) := fun z G0 H0 G H σ E => by
  obtain ⟨o, e, dx, vs, rfl, r, q⟩ := E.at_ h
  have sg : Same G (upd G p (.ins C dx vs)) := same_new r.g
  have q' : FR (upd G p (.ins C dx vs)) vs fs := FR.mono sg q
  obtain ⟨e1, e2⟩ := fz_split q'
  rw [hn] at e1
  exact ⟨_, sg, E.freeze h e rfl r rfl ⟨_, rfl, p, dx, vs.map (·.2), rfl, by rw [← e1]; exact upd_same, hR _ _ e2⟩⟩

/-- a region is frozen as it stands -/
theorem cv_rg {Γ : List Sl} (i : Nat) {α : Type} {A : Ty2 α} {R : Hp} {n : Bool} {c : Nat} {x : α} (h : Γ[i]? = some (.rg R R n c A x)) : Cv Γ (Γ.set i (.fz A.T x)) := fun z G0 H0 G H σ E => by
  obtain ⟨o, e, v, rfl, r, k, q, _⟩ := E.at_ h
  obtain ⟨sg, E'⟩ := E.freezeD (D := R) (S' := .fz A.T x) h e (fun p hp => hp) q rfl ⟨v, rfl, A.to (fun a u e => (q a u e).g) r⟩
  exact ⟨_, sg, E'⟩

/-! ### universal readings -/
section
variable (X : Cx)
def RE (e : Expr) : TE := fun σ H Q => ∃ te, PE X e te ∧ te σ H Q
def RT (e : Expr) : TT := fun σ H Q => ∃ t, PT X e t ∧ t σ H Q
def RA (es : List Expr) : TA := fun σ H Q => ∃ t, PA X es t ∧ t σ H Q
def RS (sts : List Stmt) : TS := fun D σ H => ∃ t, PSs X sts t ∧ t D σ H
def RW (e : Expr) : TT := fun σ H Q => ∃ t, PW X e t ∧ t σ H Q
end
section
variable {X : Cx}
theorem re {e : Expr} : PE X e (RE X e) := ⟨fun pins s σ H Q I ⟨_, hp, h⟩ => hp.run pins s σ H Q I h⟩
theorem rt {e : Expr} : PT X e (RT X e) := ⟨fun pins s σ H Q I ⟨_, hp, h⟩ => hp.run pins s σ H Q I h⟩
theorem ra {es : List Expr} : PA X es (RA X es) := ⟨fun pos pins s σ H Q I ⟨_, hp, h⟩ => hp.run pos pins s σ H Q I h⟩
theorem rs {sts : List Stmt} : PSs X sts (RS X sts) := ⟨fun pins s σ H D I ⟨_, hp, h⟩ => hp.run pins s σ H D I h⟩
theorem rw_ {e : Expr} : PW X e (RW X e) := ⟨fun whole pins s σ H Q I ⟨_, hp, h⟩ => hp.run whole pins s σ H Q I h⟩
end

/-! ### judgements -/
def XE (X : Cx) (z : Zs) (Γ : List Sl) (e : Expr) {α : Type} (A : Ty α) (w : (α → Prop) → Prop) : Prop :=
  ∀ (G0 H0 : Hp) (σ : St) (G H : Hp) (k : α → Prop) (Q : VK), Ev z G0 H0 G H σ Γ → w k → (∀ G' H' v y, Wd z G' H' → Stp z G H G' H' → A.rep G' v y → k y → Q v H') → RE X e σ H Q
def XT (X : Cx) (z : Zs) (Γ : List Sl) (e : Expr) (w : (Bool → Prop) → Prop) : Prop :=
  ∀ (G0 H0 : Hp) (σ : St) (G H : Hp) (k : Bool → Prop) (Q : Bool → Hp → Prop), Ev z G0 H0 G H σ Γ → w k → (∀ G' H' b, Wd z G' H' → Stp z G H G' H' → k b → Q b H') → RT X e σ H Q
def XW (X : Cx) (z : Zs) (Γ : List Sl) (e : Expr) (w : (Bool → Prop) → Prop) : Prop :=
  ∀ (G0 H0 : Hp) (σ : St) (G H : Hp) (k : Bool → Prop) (Q : Bool → Hp → Prop), Ev z G0 H0 G H σ Γ → w k → (∀ G' H' b, Wd z G' H' → Stp z G H G' H' → k b → Q b H') → RW X e σ H Q
def XA (X : Cx) (z : Zs) (Γ : List Sl) (es : List Expr) {ρ : Type} (R : Row ρ) (w : (ρ → Prop) → Prop) : Prop :=
  ∀ (G0 H0 : Hp) (σ : St) (G H : Hp) (k : ρ → Prop) (Q : List V → Hp → Prop), Ev z G0 H0 G H σ Γ → w k → (∀ G' H' vs y, Wd z G' H' → Stp z G H G' H' → R.rep G' vs y → k y → Q vs H') → RA X es σ H Q
/-- a list that may be one's own, read -/
structure SqZ (z : Zs) (H : Hp) (a : Addr) (u : HO) : Prop where
  z : z.at_ ≠ some a
  r : H a = some u
theorem SqZ.step {z : Zs} {G H G' H' : Hp} {a : Addr} {u : HO} (h : SqZ z H a u) (s : Stp z G H G' H') : SqZ z H' a u := ⟨h.z, s.h a _ h.z h.r⟩
structure DqZ (z : Zs) (H : Hp) (a : Addr) (u : HO) : Prop where
  z : z.at_ ≠ some a
  r : Rd H a u
theorem DqZ.step {z : Zs} {G H G' H' : Hp} {a : Addr} {u : HO} (h : DqZ z H a u) (s : Stp z G H G' H') : DqZ z H' a u := ⟨h.z, by
  rcases h.r with e | ⟨o, e⟩
  · exact .inl (s.h a _ h.z e)
  · exact .inr ⟨o, s.h a _ h.z e⟩⟩
def XL (X : Cx) (z : Zs) (Γ : List Sl) (e : Expr) {α : Type} (A : Ty α) (w : (List α → Prop) → Prop) : Prop :=
  ∀ (G0 H0 : Hp) (σ : St) (G H : Hp) (k : List α → Prop) (Q : VK), Ev z G0 H0 G H σ Γ → w k →
    (∀ G' H' a vs xs, Wd z G' H' → Stp z G H G' H' → SqZ z H' a (.lst vs) → Paired (A.rep G') vs xs → k xs → Q (.ref a) H') → RE X e σ H Q
/-- a dict with text keys, read -/
def XD (X : Cx) (z : Zs) (Γ : List Sl) (e : Expr) {α : Type} (A : Ty α) (w : (List (Str × α) → Prop) → Prop) : Prop :=
  ∀ (G0 H0 : Hp) (σ : St) (G H : Hp) (k : List (Str × α) → Prop) (Q : VK), Ev z G0 H0 G H σ Γ → w k →
    (∀ G' H' a ks xs, Wd z G' H' → Stp z G H G' H' → DqZ z H' a (.dK ks) → Paired (kvR A G') ks xs → k xs → Q (.ref a) H') → RE X e σ H Q
/-- what is asked behind a block -/
structure Ct : Type 1 where
  n : List Sl → Prop
  b : List Sl → Prop := fun _ => False
  c : List Sl → Prop := fun _ => False
  {β : Type}
  B : Ty β
  r : List Sl → β → Prop
structure Meets (z : Zs) (G0 H0 : Hp) (D : Ends) (ct : Ct) : Prop where
  n : ∀ σ G H Γ, Ev z G0 H0 G H σ Γ → ct.n Γ → D.nx σ H
  b : ∀ σ G H Γ, Ev z G0 H0 G H σ Γ → ct.b Γ → D.bk σ H
  c : ∀ σ G H Γ, Ev z G0 H0 G H σ Γ → ct.c Γ → D.ct σ H
  r : ∀ σ G H Γ v y, Ev z G0 H0 G H σ Γ → ct.B.rep G v y → ct.r Γ y → D.rt v H
def XB (X : Cx) (z : Zs) (ct : Ct) (Γ : List Sl) (sts : List Stmt) (w : Prop) : Prop :=
  ∀ (G0 H0 : Hp) (D : Ends) (σ : St) (G H : Hp), Meets z G0 H0 D ct → Ev z G0 H0 G H σ Γ → w → RS X sts D σ H
/-- a shape of slots -/
def J {τ : Type} (ΓJ : τ → List Sl) (w : τ → Prop) : List Sl → Prop := fun Γ => ∃ s, Γ = ΓJ s ∧ w s
end Zk
/-! TL2: rules for expressions. -/
namespace Zk
open PySem PySem.Spec L2

section
variable {X : Cx} {z : Zs} {Γ : List Sl} {a b c e : Expr} {α β γ : Type} {A : Ty α} {B : Ty β} {C : Ty γ} {pos : Pos}
  {wa : (α → Prop) → Prop} {wb : (β → Prop) → Prop}

/-! ### names and constants -/
theorem xe_var (i : Nat) {x : Str} {y : α} (hΓ : Γ[i]? = some (.fz A y)) (hN : X.N[i]? = some x) (hv : Vis X.env.scope x) (hd : (x == ("__debug__" : Str)) = false := by decide) (hcd : (x == ("__classdict__" : Str)) = false := by decide) :
    XE X z Γ (.Name x pos) A (fun k => k y) := fun G0 H0 σ G H k Q E hw hk => by
  obtain ⟨o, e, v, rfl, r⟩ := E.at_ hΓ
  exact ⟨_, pe_var hN hv hd hcd, v, e, hk G H v y E.wd (Stp.refl _ _ _) r hw⟩
theorem xe_k {te : TE} {v : V} {y : α} (hp : PE X e te) (ht : ∀ σ H (Q : VK), Q v H → te σ H Q) (r : ∀ G, A.rep G v y) : XE X z Γ e A (fun k => k y) := fun G0 H0 σ G H k Q E hw hk =>
  ⟨_, hp, ht _ _ _ (hk G H v y E.wd (Stp.refl _ _ _) (r G) hw)⟩
theorem xe_int {i j} : XE X z Γ (.Constant (.int i) j pos) tyI (fun k => k i) := xe_k pe_int (fun _ _ _ q => q) fun _ => rfl
theorem xe_bl {i j} : XE X z Γ (.Constant (.bool i) j pos) tyB (fun k => k i) := xe_k pe_bl (fun _ _ _ q => q) fun _ => rfl
theorem xe_str {i j} (hi : sOk i = true := by decide +kernel) : XE X z Γ (.Constant (.str i) j pos) tyS (fun k => k i) := xe_k pe_str (fun _ _ _ q => q) fun _ => ⟨rfl, hi⟩
theorem xe_non {j} : XE X z Γ (.Constant .none j pos) tyU (fun k => k ()) := xe_k pe_non (fun _ _ _ q => q) fun _ => rfl
theorem xe_nonN {j} {A : Ty α} : XE X z Γ (.Constant .none j pos) (tyN A) (fun k => k none) := xe_k pe_non (fun _ _ _ q => q) fun _ => rfl
/-- what an expression gives, wrapped -/
theorem xe_as {y' : Type} {B : Ty β} (f : α → β) (hf : ∀ G v x, A.rep G v x → B.rep G v (f x)) (h : XE X z Γ e A wa) : XE X z Γ e B (fun k => wa fun x => k (f x)) := fun G0 H0 σ G H k Q E hw hk =>
  h G0 H0 σ G H (fun x => k (f x)) Q E hw fun G' H' v y W S r q => hk G' H' v (f y) W S (hf _ _ _ r) q
theorem xe_some (h : XE X z Γ e A wa) : XE X z Γ e (tyN A) (fun k => wa fun x => k (some x)) := xe_as (y' := Unit) some (fun _ _ _ r => r) h
theorem xe_imp {w w' : (α → Prop) → Prop} (h : XE X z Γ e A w) (f : ∀ k, w' k → w k) : XE X z Γ e A w' := fun G0 H0 σ G H k Q E hw hk => h G0 H0 σ G H k Q E (f k hw) hk

/-! ### two operands -/
def Op2 (z : Zs) (A : Ty α) (B : Ty β) (C : Ty γ) (r : R2) (w2 : α → β → (γ → Prop) → Prop) : Prop :=
  ∀ (G H : Hp) (v u : V) (x : α) (y : β) (k : γ → Prop) (Q : VK), Wd z G H → A.rep G v x → B.rep G u y → w2 x y k → (∀ G' H' v' y', Wd z G' H' → Stp z G H G' H' → C.rep G' v' y' → k y' → Q v' H') → r v u H Q
theorem two {r : R2} {w2 : α → β → (γ → Prop) → Prop} (ha : XE X z Γ a A wa) (hb : XE X z Γ b B wb) (hr : Op2 z A B C r w2) {G0 H0 : Hp} {σ : L2.St} {G H : Hp} {k : γ → Prop} {Q : VK} (E : Ev z G0 H0 G H σ Γ) (hw : wa fun x => wb fun y => w2 x y k)
    (hk : ∀ G' H' v y, Wd z G' H' → Stp z G H G' H' → C.rep G' v y → k y → Q v H') : tOp r (RE X a) (RE X b) σ H Q :=
  ha G0 H0 σ G H _ _ E hw fun G1 H1 v x W1 S1 r1 h1 => hb G0 H0 σ G1 H1 _ _ (E.step W1 S1) h1 fun G2 H2 u y W2 S2 r2 h2 =>
    hr G2 H2 v u x y k Q W2 (A.mono S2.g r1) r2 h2 fun G' H' v' y' W S r q => hk G' H' v' y' W ((S1.trans S2).trans S) r q
theorem xe_op {op : Operator} {r : R2} {w2 : α → β → (γ → Prop) → Prop} (ho : OpR X (binaryOp op) r) (hr : Op2 z A B C r w2) (ha : XE X z Γ a A wa) (hb : XE X z Γ b B wb) :
    XE X z Γ (.BinOp a op b pos) C (fun k => wa fun x => wb fun y => w2 x y k) := fun G0 H0 σ G H k Q E hw hk => ⟨_, pe_op ho re re, two ha hb hr E hw hk⟩
theorem xe_cmp {op : CmpOp} {r : R2} {w2 : α → β → (Bool → Prop) → Prop} (ho : OpR X (compareOp op) r) (hr : Op2 z A B tyB r w2) (hm : behindInMarks op b = false) (ha : XE X z Γ a A wa) (hb : XE X z Γ b B wb) :
    XE X z Γ (.Compare a [op] [b] pos) tyB (fun k => wa fun x => wb fun y => w2 x y k) := fun G0 H0 σ G H k Q E hw hk => ⟨_, pe_cmpR ho re re hm, two ha hb hr E hw hk⟩
theorem xt_cmp {op : CmpOp} {r : R2} {w2 : α → β → (Bool → Prop) → Prop} (ho : OpR X (compareOp op) r) (hr : Op2 z A B tyB r w2) (hm : behindInMarks op b = false) (ha : XE X z Γ a A wa) (hb : XE X z Γ b B wb) :
    XT X z Γ (.Compare a [op] [b] pos) (fun k => wa fun x => wb fun y => w2 x y k) := fun G0 H0 σ G H k Q E hw hk =>
  ⟨_, pt_cmpR ho re re hm, two ha hb hr (Q := fun x H' => ∃ k, x = .bl k ∧ Q k H') E hw fun G' H' v y W S r q => ⟨y, r, hk G' H' y W S q⟩⟩
/-- what leaves the heap -/
theorem op2_h {r : R2} {w2 : α → β → (γ → Prop) → Prop} (h : ∀ G H v u x y k (Q : VK), A.rep G v x → B.rep G u y → w2 x y k → (∀ v' y', C.rep G v' y' → k y' → Q v' H) → r v u H Q) : Op2 z A B C r w2 := fun G H v u x y k Q W r1 r2 hw hk =>
  h G H v u x y k Q r1 r2 hw fun v' y' r q => hk G H v' y' W (Stp.refl _ _ _) r q
theorem o2_I0 {g : Int → Int → Int} : Op2 z tyI tyI tyI (rI0 fun i j => .int (g i j)) (fun x y k => k (g x y)) := op2_h fun _ _ _ _ x y _ _ r1 r2 hw hk => ⟨x, y, r1, r2, hk _ _ rfl hw⟩
theorem o2_I {D : Int → Int → Prop} {g : Int → Int → Int} : Op2 z tyI tyI tyI (rI D fun i j => .int (g i j)) (fun x y k => D x y ∧ k (g x y)) := op2_h fun _ _ _ _ x y _ _ r1 r2 hw hk => ⟨x, y, r1, r2, hw.1, hk _ _ rfl hw.2⟩
theorem o2_B0 {g : Int → Int → Bool} : Op2 z tyI tyI tyB (rI0 fun i j => .bl (g i j)) (fun x y k => k (g x y)) := op2_h fun _ _ _ _ x y _ _ r1 r2 hw hk => ⟨x, y, r1, r2, hk _ _ rfl hw⟩
section
variable {wi wj : (Int → Prop) → Prop}
theorem xe_add (ha : XE X z Γ a tyI wi) (hb : XE X z Γ b tyI wj) : XE X z Γ (.BinOp a .Add b pos) tyI (fun k => wi fun x => wj fun y => k (x + y)) := xe_op op_add o2_I0 ha hb
theorem xe_sub (ha : XE X z Γ a tyI wi) (hb : XE X z Γ b tyI wj) : XE X z Γ (.BinOp a .Sub b pos) tyI (fun k => wi fun x => wj fun y => k (x - y)) := xe_op op_sub o2_I0 ha hb
theorem xe_mul (ha : XE X z Γ a tyI wi) (hb : XE X z Γ b tyI wj) : XE X z Γ (.BinOp a .Mult b pos) tyI (fun k => wi fun x => wj fun y => CMulW x y ∧ k (x * y)) := xe_op op_mulW o2_I ha hb
theorem xe_fdiv (ha : XE X z Γ a tyI wi) (hb : XE X z Γ b tyI wj) : XE X z Γ (.BinOp a .FloorDiv b pos) tyI (fun k => wi fun x => wj fun y => CDivW x y ∧ k (x / y)) := xe_op op_fdivW o2_I ha hb
theorem xe_mod (ha : XE X z Γ a tyI wi) (hb : XE X z Γ b tyI wj) : XE X z Γ (.BinOp a .Mod b pos) tyI (fun k => wi fun x => wj fun y => 0 < y ∧ k (x % y)) := xe_op op_mod o2_I ha hb
theorem xe_pow (ha : XE X z Γ a tyI wi) (hb : XE X z Γ b tyI wj) : XE X z Γ (.BinOp a .Pow b pos) tyI (fun k => wi fun x => wj fun y => CPow x y ∧ k (x ^ y.toNat)) := xe_op op_pow o2_I ha hb
theorem xe_neg (ha : XE X z Γ a tyI wi) : XE X z Γ (.UnaryOp .USub a pos) tyI (fun k => wi fun x => k (-x)) := fun G0 H0 σ G H k Q E hw hk =>
  ⟨_, pe_un un_neg re, ha G0 H0 σ G H _ _ E hw fun G1 H1 v x W1 S1 r1 h1 => ⟨x, r1, hk G1 H1 _ _ W1 S1 rfl h1⟩⟩
theorem xt_lt (ha : XE X z Γ a tyI wi) (hb : XE X z Γ b tyI wj) : XT X z Γ (.Compare a [.Lt] [b] pos) (fun k => wi fun x => wj fun y => k (decide (x < y))) := xt_cmp op_lt o2_B0 (nomark _) ha hb
theorem xt_le (ha : XE X z Γ a tyI wi) (hb : XE X z Γ b tyI wj) : XT X z Γ (.Compare a [.LtE] [b] pos) (fun k => wi fun x => wj fun y => k (decide (x ≤ y))) := xt_cmp op_le o2_B0 (nomark _) ha hb
theorem xt_gt (ha : XE X z Γ a tyI wi) (hb : XE X z Γ b tyI wj) : XT X z Γ (.Compare a [.Gt] [b] pos) (fun k => wi fun x => wj fun y => k (decide (y < x))) := xt_cmp op_gt o2_B0 (nomark _) ha hb
theorem xt_ge (ha : XE X z Γ a tyI wi) (hb : XE X z Γ b tyI wj) : XT X z Γ (.Compare a [.GtE] [b] pos) (fun k => wi fun x => wj fun y => k (decide (y ≤ x))) := xt_cmp op_ge o2_B0 (nomark _) ha hb
theorem xe_lt (ha : XE X z Γ a tyI wi) (hb : XE X z Γ b tyI wj) : XE X z Γ (.Compare a [.Lt] [b] pos) tyB (fun k => wi fun x => wj fun y => k (decide (x < y))) := xe_cmp op_lt o2_B0 (nomark _) ha hb
theorem xe_le (ha : XE X z Γ a tyI wi) (hb : XE X z Γ b tyI wj) : XE X z Γ (.Compare a [.LtE] [b] pos) tyB (fun k => wi fun x => wj fun y => k (decide (x ≤ y))) := xe_cmp op_le o2_B0 (nomark _) ha hb
theorem xe_gt (ha : XE X z Γ a tyI wi) (hb : XE X z Γ b tyI wj) : XE X z Γ (.Compare a [.Gt] [b] pos) tyB (fun k => wi fun x => wj fun y => k (decide (y < x))) := xe_cmp op_gt o2_B0 (nomark _) ha hb
theorem xe_ge (ha : XE X z Γ a tyI wi) (hb : XE X z Γ b tyI wj) : XE X z Γ (.Compare a [.GtE] [b] pos) tyB (fun k => wi fun x => wj fun y => k (decide (y ≤ x))) := xe_cmp op_ge o2_B0 (nomark _) ha hb
end
/-! ### == of scalars of one kind -/
class Scal (A : Ty α) where
  val : α → V
  inj : ∀ x y, val x = val y → x = y
  rep : ∀ {G v x}, A.rep G v x → v = val x
  sc : ∀ x y, scal (val x) (val y) = true
  fl : ∀ x, flatV (val x) = true
instance : Scal tyI := ⟨.int, fun _ _ h => V.int.inj h, fun h => h, fun _ _ => rfl, fun _ => rfl⟩
instance : Scal tyB := ⟨.bl, fun _ _ h => V.bl.inj h, fun h => h, fun _ _ => rfl, fun _ => rfl⟩
instance : Scal tyS := ⟨.str, fun _ _ h => V.str.inj h, fun h => h.1, fun _ _ => rfl, fun _ => rfl⟩
theorem Scal.dec {A : Ty α} [s : Scal A] [DecidableEq α] (x y : α) : decide (s.val x = s.val y) = decide (x = y) := by
  by_cases h : x = y
  · subst h; simp
  · rw [decide_eq_false h, decide_eq_false fun q => h (s.inj _ _ q)]
theorem o2_eq [s : Scal A] [DecidableEq α] : Op2 z A A tyB rEq (fun x y k => k (decide (x = y))) := op2_h fun _ _ _ _ x y _ _ r1 r2 hw hk => by
  rw [s.rep r1, s.rep r2]
  refine ⟨s.sc x y, ?_⟩
  rw [Scal.dec]
  exact hk _ _ rfl hw
theorem o2_ne [s : Scal A] [DecidableEq α] : Op2 z A A tyB rNe (fun x y k => k (!decide (x = y))) := op2_h fun _ _ _ _ x y _ _ r1 r2 hw hk => by
  rw [s.rep r1, s.rep r2]
  refine ⟨s.sc x y, ?_⟩
  rw [Scal.dec]
  exact hk _ _ rfl hw
theorem xt_eq [Scal A] [DecidableEq α] {wb : (α → Prop) → Prop} (ha : XE X z Γ a A wa) (hb : XE X z Γ b A wb) : XT X z Γ (.Compare a [.Eq] [b] pos) (fun k => wa fun x => wb fun y => k (decide (x = y))) := xt_cmp op_eq o2_eq (nomark _) ha hb
theorem xt_ne [Scal A] [DecidableEq α] {wb : (α → Prop) → Prop} (ha : XE X z Γ a A wa) (hb : XE X z Γ b A wb) : XT X z Γ (.Compare a [.NotEq] [b] pos) (fun k => wa fun x => wb fun y => k (!decide (x = y))) := xt_cmp op_ne o2_ne (nomark _) ha hb
theorem xe_eq [Scal A] [DecidableEq α] {wb : (α → Prop) → Prop} (ha : XE X z Γ a A wa) (hb : XE X z Γ b A wb) : XE X z Γ (.Compare a [.Eq] [b] pos) tyB (fun k => wa fun x => wb fun y => k (decide (x = y))) := xe_cmp op_eq o2_eq (nomark _) ha hb
theorem xe_ne [Scal A] [DecidableEq α] {wb : (α → Prop) → Prop} (ha : XE X z Γ a A wa) (hb : XE X z Γ b A wb) : XE X z Γ (.Compare a [.NotEq] [b] pos) tyB (fun k => wa fun x => wb fun y => k (!decide (x = y))) := xe_cmp op_ne o2_ne (nomark _) ha hb

/-! ### tests -/
variable {w1 w2 : (Bool → Prop) → Prop} {rest : List Expr}
theorem xt_val (h : XE X z Γ e tyB w1) (he : ∀ whole, isTrue e X.env whole = (do let v ← whole; standAt e.pos; holding [v] (truthy v)) := by intro _; rfl) : XT X z Γ e w1 := fun G0 H0 σ G H k Q E hw hk =>
  ⟨_, pt_val re he, h G0 H0 σ G H k _ E hw fun G1 H1 v x W1 S1 r1 h1 => ⟨x, r1, hk G1 H1 x W1 S1 h1⟩⟩
theorem xt_not (h : XT X z Γ e w1) : XT X z Γ (.UnaryOp .Not e pos) (fun k => w1 fun b => k (!b)) := fun G0 H0 σ G H k Q E hw hk =>
  ⟨_, pt_not rt, h G0 H0 σ G H _ _ E hw fun G1 H1 x W1 S1 h1 => hk G1 H1 (!x) W1 S1 h1⟩
theorem xe_not (h : XE X z Γ e tyB w1) : XE X z Γ (.UnaryOp .Not e pos) tyB (fun k => w1 fun b => k (!b)) := fun G0 H0 σ G H k Q E hw hk =>
  ⟨_, pe_not re, h G0 H0 σ G H _ _ E hw fun G1 H1 v x W1 S1 r1 h1 => ⟨x, r1, hk G1 H1 (.bl (!x)) (!x) W1 S1 rfl h1⟩⟩
theorem xw_and1 (h : XT X z Γ a w1) : XW X z Γ (.BoolOp .And [a] pos) w1 := fun G0 H0 σ G H k Q E hw hk => ⟨_, pw_and1 rt, h G0 H0 σ G H k Q E hw hk⟩
theorem xw_or1 (h : XT X z Γ a w1) : XW X z Γ (.BoolOp .Or [a] pos) w1 := fun G0 H0 σ G H k Q E hw hk => ⟨_, pw_or1 rt, h G0 H0 σ G H k Q E hw hk⟩
theorem xw_and (h : XT X z Γ a w1) (hr : XW X z Γ (.BoolOp .And (b :: rest) pos) w2) : XW X z Γ (.BoolOp .And (a :: b :: rest) pos) (fun k => w1 fun x => if x = true then w2 k else k false) := fun G0 H0 σ G H k Q E hw hk =>
  ⟨_, pw_and rt rw_, h G0 H0 σ G H _ _ E hw fun G1 H1 x W1 S1 h1 => by
    cases x with
    | true => exact hr G0 H0 σ G1 H1 k Q (E.step W1 S1) h1 fun G' H' b W S q => hk G' H' b W (S1.trans S) q
    | false => exact hk G1 H1 false W1 S1 h1⟩
theorem xw_or (h : XT X z Γ a w1) (hr : XW X z Γ (.BoolOp .Or (b :: rest) pos) w2) : XW X z Γ (.BoolOp .Or (a :: b :: rest) pos) (fun k => w1 fun x => if x = true then k true else w2 k) := fun G0 H0 σ G H k Q E hw hk =>
  ⟨_, pw_or rt rw_, h G0 H0 σ G H _ _ E hw fun G1 H1 x W1 S1 h1 => by
    cases x with
    | true => exact hk G1 H1 true W1 S1 h1
    | false => exact hr G0 H0 σ G1 H1 k Q (E.step W1 S1) h1 fun G' H' b W S q => hk G' H' b W (S1.trans S) q⟩
theorem xt_w (h : XW X z Γ e w1) : XT X z Γ e w1 := fun G0 H0 σ G H k Q E hw hk => ⟨_, PW.pt rw_, h G0 H0 σ G H k Q E hw hk⟩
theorem xe_one {op} (h : XE X z Γ a A wa) : XE X z Γ (.BoolOp op [a] pos) A wa := fun G0 H0 σ G H k Q E hw hk => ⟨_, pe_one re, h G0 H0 σ G H k Q E hw hk⟩
theorem xe_and (h : XE X z Γ a tyB w1) (hr : XE X z Γ (.BoolOp .And (b :: rest) pos) tyB w2) : XE X z Γ (.BoolOp .And (a :: b :: rest) pos) tyB (fun k => w1 fun x => if x = true then w2 k else k false) := fun G0 H0 σ G H k Q E hw hk =>
  ⟨_, pe_and re re, h G0 H0 σ G H _ _ E hw fun G1 H1 v x W1 S1 r1 h1 => ⟨x, r1, by
    cases x with
    | true => exact hr G0 H0 σ G1 H1 k Q (E.step W1 S1) h1 fun G' H' v b W S r q => hk G' H' v b W (S1.trans S) r q
    | false => exact hk G1 H1 _ false W1 S1 rfl h1⟩⟩
theorem xe_or (h : XE X z Γ a tyB w1) (hr : XE X z Γ (.BoolOp .Or (b :: rest) pos) tyB w2) : XE X z Γ (.BoolOp .Or (a :: b :: rest) pos) tyB (fun k => w1 fun x => if x = true then k true else w2 k) := fun G0 H0 σ G H k Q E hw hk =>
  ⟨_, pe_or re re, h G0 H0 σ G H _ _ E hw fun G1 H1 v x W1 S1 r1 h1 => ⟨x, r1, by
    cases x with
    | true => exact hk G1 H1 _ true W1 S1 rfl h1
    | false => exact hr G0 H0 σ G1 H1 k Q (E.step W1 S1) h1 fun G' H' v b W S r q => hk G' H' v b W (S1.trans S) r q⟩⟩
theorem xe_ifExp {wb : (α → Prop) → Prop} (hc : XT X z Γ c w1) (ha : XE X z Γ a A wa) (hb : XE X z Γ b A wb) : XE X z Γ (.IfExp c a b pos) A (fun k => w1 fun x => if x = true then wa k else wb k) := fun G0 H0 σ G H k Q E hw hk =>
  ⟨_, pe_ifExp rt re re, hc G0 H0 σ G H _ _ E hw fun G1 H1 x W1 S1 h1 => by
    cases x with
    | true => exact ha G0 H0 σ G1 H1 k Q (E.step W1 S1) h1 fun G' H' v b W S r q => hk G' H' v b W (S1.trans S) r q
    | false => exact hb G0 H0 σ G1 H1 k Q (E.step W1 S1) h1 fun G' H' v b W S r q => hk G' H' v b W (S1.trans S) r q⟩
theorem xt_imp {w w' : (Bool → Prop) → Prop} (h : XT X z Γ e w) (f : ∀ k, w' k → w k) : XT X z Γ e w' := fun G0 H0 σ G H k Q E hw hk => h G0 H0 σ G H k Q E (f k hw) hk
/-- x is None, x is not None, of a text or None and the like -/
class NonNone (A : Ty α) : Prop where
  nn : ∀ G v x, A.rep G v x → v ≠ .non
instance : NonNone tyI := ⟨fun _ _ _ h e => by rw [show _ = V.int _ from h] at e; cases e⟩
instance : NonNone tyB := ⟨fun _ _ _ h e => by rw [show _ = V.bl _ from h] at e; cases e⟩
instance : NonNone tyS := ⟨fun _ _ _ h e => by rw [show _ = V.str _ from h.1] at e; cases e⟩
instance : NonNone (tyL A) := ⟨fun _ _ _ ⟨_, _, h, _⟩ e => by rw [h] at e; cases e⟩
instance : NonNone (tyP A) := ⟨fun _ _ _ ⟨_, _, h, _⟩ e => by rw [h] at e; cases e⟩
instance {ρ : Type} {R : Row ρ} : NonNone (tyT R) := ⟨fun _ _ _ ⟨_, _, h, _⟩ e => by rw [h] at e; cases e⟩
instance {ρ : Type} {R : Row ρ} : NonNone (tyM R) := ⟨fun _ _ _ ⟨_, _, h, _⟩ e => by rw [h] at e; cases e⟩
theorem none_iff [n : NonNone A] {G : Hp} {v : V} {x : Option α} (h : (tyN A).rep G v x) : decide (v = .non) = x.isNone := by
  cases x with
  | none =>
    have e : v = .non := h
    rw [e]
    rfl
  | some y => exact decide_eq_false (n.nn G v y h)
theorem xt_isN [NonNone A] {wo : (Option α → Prop) → Prop} {j pos'} (h : XE X z Γ a (tyN A) wo) : XT X z Γ (.Compare a [.Is] [.Constant .none j pos'] pos) (fun k => wo fun x => k x.isNone) := fun G0 H0 σ G H k Q E hw hk =>
  ⟨_, pt_cmp (pc_isN re) (nobehind _ (by decide) (by decide)), h G0 H0 σ G H _ _ E hw fun G1 H1 v x W1 S1 r1 h1 => ⟨x.isNone, by rw [none_iff r1], hk G1 H1 _ W1 S1 h1⟩⟩
theorem xt_notN [NonNone A] {wo : (Option α → Prop) → Prop} {j pos'} (h : XE X z Γ a (tyN A) wo) : XT X z Γ (.Compare a [.IsNot] [.Constant .none j pos'] pos) (fun k => wo fun x => k (!x.isNone)) := fun G0 H0 σ G H k Q E hw hk =>
  ⟨_, pt_cmp (pc_notN re) (nobehind _ (by decide) (by decide)), h G0 H0 σ G H _ _ E hw fun G1 H1 v x W1 S1 r1 h1 => ⟨!x.isNone, by rw [none_iff r1], hk G1 H1 _ W1 S1 h1⟩⟩
theorem xe_isN [NonNone A] {wo : (Option α → Prop) → Prop} {j pos'} (h : XE X z Γ a (tyN A) wo) : XE X z Γ (.Compare a [.Is] [.Constant .none j pos'] pos) tyB (fun k => wo fun x => k x.isNone) := fun G0 H0 σ G H k Q E hw hk =>
  ⟨_, pe_cmp (pc_isN re) (nobehind _ (by decide) (by decide)), h G0 H0 σ G H _ _ E hw fun G1 H1 v x W1 S1 r1 h1 => hk G1 H1 _ x.isNone W1 S1 (by rw [none_iff r1]; exact rfl) h1⟩
theorem xe_notN [NonNone A] {wo : (Option α → Prop) → Prop} {j pos'} (h : XE X z Γ a (tyN A) wo) : XE X z Γ (.Compare a [.IsNot] [.Constant .none j pos'] pos) tyB (fun k => wo fun x => k (!x.isNone)) := fun G0 H0 σ G H k Q E hw hk =>
  ⟨_, pe_cmp (pc_notN re) (nobehind _ (by decide) (by decide)), h G0 H0 σ G H _ _ E hw fun G1 H1 v x W1 S1 r1 h1 => hk G1 H1 _ (!x.isNone) W1 S1 (by rw [none_iff r1]; exact rfl) h1⟩

/-! ### rows of arguments, tuples, lists -/
variable {ρ : Type} {R : Row ρ} {wr : (ρ → Prop) → Prop} {es : List Expr}
theorem xa_nil : XA X z Γ [] Row.nil (fun k => k ()) := fun G0 H0 σ G H k Q E hw hk => ⟨_, pa_nil, hk G H [] () E.wd (Stp.refl _ _ _) rfl hw⟩
theorem xa_one (h : XE X z Γ e A wa) (hs : starEach (e :: []) X.env = (false, eval e X.env) :: starEach [] X.env := by rfl) : XA X z Γ [e] (Row.one A) wa := fun G0 H0 σ G H k Q E hw hk =>
  ⟨_, pa_cons re pa_nil hs, h G0 H0 σ G H _ _ E hw fun G1 H1 v x W1 S1 r1 h1 => hk G1 H1 [v] x W1 S1 ⟨v, rfl, r1⟩ h1⟩
theorem xa_cons (h : XE X z Γ e A wa) (hr : XA X z Γ es R wr) (hs : starEach (e :: es) X.env = (false, eval e X.env) :: starEach es X.env := by rfl) : XA X z Γ (e :: es) (Row.cons A R) (fun k => wa fun x => wr fun y => k (x, y)) := fun G0 H0 σ G H k Q E hw hk =>
  ⟨_, pa_cons re ra hs, h G0 H0 σ G H _ _ E hw fun G1 H1 v x W1 S1 r1 h1 => hr G0 H0 σ G1 H1 _ _ (E.step W1 S1) h1 fun G2 H2 vs y W2 S2 r2 h2 =>
    hk G2 H2 (v :: vs) (x, y) W2 (S1.trans S2) ⟨v, vs, rfl, A.mono S2.g r1, r2⟩ h2⟩
theorem xe_tup {x1} (h : XA X z Γ es R wr) (hn : R.n ≤ sizeLine := by show _ ≤ _; decide) : XE X z Γ (.Tuple es x1 pos) (tyT R) wr := fun G0 H0 σ G H k Q E hw hk =>
  ⟨_, pe_tup ra, h G0 H0 σ G H _ _ E hw fun G1 H1 vs x W1 S1 r1 h1 => ⟨by rw [R.len r1]; exact hn, fun p hp =>
    hk _ _ _ x (W1.new hp) (S1.trans (Stp.new W1.gh hp)) ⟨p, vs, rfl, upd_same, R.mono (same_new (W1.gh.free hp)) r1⟩ h1⟩⟩
theorem xe_mix (h : XA X z Γ es R wr) (hn : R.n ≤ sizeLine := by show _ ≤ _; decide) : XE X z Γ (.List es pos) (tyM R) wr := fun G0 H0 σ G H k Q E hw hk =>
  ⟨_, pe_lst ra, h G0 H0 σ G H _ _ E hw fun G1 H1 vs x W1 S1 r1 h1 => ⟨by rw [R.len r1]; exact hn, fun p hp =>
    hk _ _ _ x (W1.new hp) (S1.trans (Stp.new W1.gh hp)) ⟨p, vs, rfl, upd_same, R.mono (same_new (W1.gh.free hp)) r1⟩ h1⟩⟩
/-- all of one kind -/
def Row.nils (A : Ty α) : Row (List α) := ⟨0, fun _ vs x => vs = [] ∧ x = [], fun _ h => h, fun h => by rw [h.1]; rfl⟩
def Row.conss (A : Ty α) (R : Row (List α)) : Row (List α) where
  n := R.n + 1
  rep := fun G vs x => ∃ v r y ys, vs = v :: r ∧ x = y :: ys ∧ A.rep G v y ∧ R.rep G r ys
  mono := fun s ⟨v, r, y, ys, e, e', h, q⟩ => ⟨v, r, y, ys, e, e', A.mono s h, R.mono s q⟩
  len := fun ⟨v, r, y, ys, e, _, _, q⟩ => by rw [e, List.length_cons, R.len q]
class Alike (A : Ty α) (R : Row (List α)) : Prop where
  to : ∀ {G vs x}, R.rep G vs x → Paired (A.rep G) vs x
instance : Alike A (Row.nils A) := ⟨fun ⟨h1, h2⟩ => by rw [h1, h2]; exact .nil⟩
instance {R : Row (List α)} [h : Alike A R] : Alike A (Row.conss A R) := ⟨fun ⟨v, r, y, ys, e, e', q, t⟩ => by rw [e, e']; exact .cons q (h.to t)⟩
variable {Rl : Row (List α)} {wl : (List α → Prop) → Prop}
theorem xa_nils : XA X z Γ [] (Row.nils A) (fun k => k []) := fun G0 H0 σ G H k Q E hw hk => ⟨_, pa_nil, hk G H [] [] E.wd (Stp.refl _ _ _) ⟨rfl, rfl⟩ hw⟩
theorem xa_conss (h : XE X z Γ e A wa) (hr : XA X z Γ es Rl wl) (hs : starEach (e :: es) X.env = (false, eval e X.env) :: starEach es X.env := by rfl) : XA X z Γ (e :: es) (Row.conss A Rl) (fun k => wa fun x => wl fun y => k (x :: y)) := fun G0 H0 σ G H k Q E hw hk =>
  ⟨_, pa_cons re ra hs, h G0 H0 σ G H _ _ E hw fun G1 H1 v x W1 S1 r1 h1 => hr G0 H0 σ G1 H1 _ _ (E.step W1 S1) h1 fun G2 H2 vs y W2 S2 r2 h2 =>
    hk G2 H2 (v :: vs) (x :: y) W2 (S1.trans S2) ⟨v, vs, x, y, rfl, rfl, A.mono S2.g r1, r2⟩ h2⟩
theorem xe_lst [Alike A Rl] (h : XA X z Γ es Rl wl) (hn : Rl.n ≤ sizeLine := by show _ ≤ _; decide) : XE X z Γ (.List es pos) (tyL A) wl := fun G0 H0 σ G H k Q E hw hk =>
  ⟨_, pe_lst ra, h G0 H0 σ G H _ _ E hw fun G1 H1 vs x W1 S1 r1 h1 => ⟨by rw [Rl.len r1]; exact hn, fun p hp =>
    hk _ _ _ x (W1.new hp) (S1.trans (Stp.new W1.gh hp)) ⟨p, vs, rfl, upd_same, Alike.to (Rl.mono (same_new (W1.gh.free hp)) r1)⟩ h1⟩⟩
theorem xe_tups {x1} [Alike A Rl] (h : XA X z Γ es Rl wl) (hn : Rl.n ≤ sizeLine := by show _ ≤ _; decide) : XE X z Γ (.Tuple es x1 pos) (tyP A) wl := fun G0 H0 σ G H k Q E hw hk =>
  ⟨_, pe_tup ra, h G0 H0 σ G H _ _ E hw fun G1 H1 vs x W1 S1 r1 h1 => ⟨by rw [Rl.len r1]; exact hn, fun p hp =>
    hk _ _ _ x (W1.new hp) (S1.trans (Stp.new W1.gh hp)) ⟨p, vs, rfl, upd_same, Alike.to (Rl.mono (same_new (W1.gh.free hp)) r1)⟩ h1⟩⟩
end
end Zk
/-! TL3: sequences, texts, dicts read; calls; fields. -/
namespace Zk
open PySem PySem.Spec L2

theorem Paired.at_ {α β : Type} {F : α → β → Prop} : ∀ {l : List α} {m : List β} {i : Nat} {y : β}, Paired F l m → m[i]? = some y → ∃ x, l[i]? = some x ∧ F x y
  | _, _, i, y, .nil, h => by simp at h
  | _, _, 0, y, .cons r _, h => by
    have e := Option.some.inj (show some _ = some y from h)
    subst e
    exact ⟨_, rfl, r⟩
  | _, _, i + 1, y, .cons _ t, h => Paired.at_ (i := i) t h
theorem Paired.at' {α β : Type} {F : α → β → Prop} : ∀ {l : List α} {m : List β} {i : Nat} {x : α}, Paired F l m → l[i]? = some x → ∃ y, m[i]? = some y ∧ F x y
  | _, _, i, y, .nil, h => by simp at h
  | _, _, 0, y, .cons r _, h => by
    have e := Option.some.inj (show some _ = some y from h)
    subst e
    exact ⟨_, rfl, r⟩
  | _, _, i + 1, y, .cons _ t, h => Paired.at' (i := i) t h
theorem Paired.atI {α β : Type} {F : α → β → Prop} {l : List α} {m : List β} {i : Int} {y : β} (h : Paired F l m) (e : atI m i = some y) : ∃ x, atI l i = some x ∧ F x y := by
  unfold L2.atI at e ⊢
  rw [h.length]
  cases q : ixN m.length i with
  | none => rw [q] at e; cases e
  | some j =>
    rw [q] at e
    exact Paired.at_ h e
theorem Paired.drop {α β : Type} {F : α → β → Prop} : ∀ {l : List α} {m : List β} (n : Nat), Paired F l m → Paired F (l.drop n) (m.drop n)
  | _, _, 0, r => r
  | _, _, _ + 1, .nil => .nil
  | _, _, n + 1, .cons _ t => Paired.drop n t
theorem Paired.take {α β : Type} {F : α → β → Prop} : ∀ {l : List α} {m : List β} (n : Nat), Paired F l m → Paired F (l.take n) (m.take n)
  | _, _, 0, _ => .nil
  | _, _, _ + 1, .nil => .nil
  | _, _, n + 1, .cons r t => .cons r (Paired.take n t)
theorem Paired.app {α β : Type} {F : α → β → Prop} : ∀ {l l' : List α} {m m' : List β}, Paired F l m → Paired F l' m' → Paired F (l ++ l') (m ++ m')
  | _, _, _, _, .nil, s => s
  | _, _, _, _, .cons r t, s => .cons r (Paired.app t s)
theorem Paired.rev {α β : Type} {F : α → β → Prop} : ∀ {l : List α} {m : List β}, Paired F l m → Paired F l.reverse m.reverse
  | _, _, .nil => .nil
  | _, _, .cons r t => by rw [List.reverse_cons, List.reverse_cons]; exact Paired.app (Paired.rev t) (.cons r .nil)
theorem paired_ints : ∀ {vs : List V} {xs : List Int} {G : Hp}, Paired (tyI.rep G) vs xs → vs = xs.map V.int
  | _, _, _, .nil => rfl
  | _, _, _, .cons r t => by rw [show _ = V.int _ from r, paired_ints t]; rfl
theorem paired_bls : ∀ {vs : List V} {xs : List Bool} {G : Hp}, Paired (tyB.rep G) vs xs → vs = xs.map V.bl
  | _, _, _, .nil => rfl
  | _, _, _, .cons r t => by rw [show _ = V.bl _ from r, paired_bls t]; rfl
theorem paired_strs : ∀ {vs : List V} {xs : List Str} {G : Hp}, Paired (tyS.rep G) vs xs → vs = xs.map V.str
  | _, _, _, .nil => rfl
  | _, _, _, .cons r t => by rw [show _ = V.str _ from r.1, paired_strs t]; rfl
theorem paired_sok : ∀ {vs : List V} {xs : List Str} {G : Hp}, Paired (tyS.rep G) vs xs → ∀ x ∈ xs, sOk x = true
  | _, _, _, .nil => fun _ h => by cases h
  | _, _, _, .cons r t => fun x h => (List.mem_cons.mp h).elim (fun e => e ▸ r.2) (paired_sok t x)
theorem pair_ints : ∀ (xs : List Int) (G : Hp), Paired (tyI.rep G) (xs.map V.int) xs
  | [], _ => .nil
  | _ :: t, G => .cons rfl (pair_ints t G)
theorem pair_strs : ∀ (xs : List Str) (G : Hp), (∀ x ∈ xs, sOk x = true) → Paired (tyS.rep G) (xs.map V.str) xs
  | [], _, _ => .nil
  | x :: t, G, h => .cons ⟨rfl, h x List.mem_cons_self⟩ (pair_strs t G fun y hy => h y (List.mem_cons_of_mem _ hy))
/-- xs[lo:hi] -/
def cutA {α : Type} (xs : List α) (lo hi : Option Int) : List α := (xs.drop (HT.sIx xs.length 0 lo)).take (HT.sIx xs.length xs.length hi - HT.sIx xs.length 0 lo)
theorem Paired.cut {β : Type} {F : V → β → Prop} {l : List V} {m : List β} (h : Paired F l m) (lo hi : Option Int) : Paired F (cutV l lo hi) (cutA m lo hi) := by
  unfold cutV cutA
  rw [h.length]
  exact Paired.take _ (Paired.drop _ h)
theorem Wd.nz {z : Zs} {G H : Hp} (w : Wd z G H) {a : Addr} {u : HO} (h : G a = some u) : z.at_ ≠ some a := fun e => by
  rw [(w.zk a e).1] at h
  cases h
theorem Wd.lst {z : Zs} {G H : Hp} (w : Wd z G H) {a : Addr} {u : HO} (h : G a = some u) (hu : ∀ kvs, u ≠ .dK kvs) : SqZ z H a u := by
  refine ⟨w.nz h, ?_⟩
  rcases w.gh a u h with e | ⟨_, kvs, e, _⟩
  · exact e
  · exact absurd e (hu kvs)
theorem Wd.dk {z : Zs} {G H : Hp} (w : Wd z G H) {a : Addr} {kvs : List (Key × V)} (h : G a = some (.dK kvs)) : DqZ z H a (.dK kvs) := by
  refine ⟨w.nz h, ?_⟩
  rcases w.gh a _ h with e | ⟨o, k, e, e2⟩
  · exact .inl e
  · cases e
    exact .inr ⟨o, e2⟩

section
variable {X : Cx} {z : Zs} {Γ : List Sl} {a b c e : Expr} {α β γ : Type} {A : Ty α} {B : Ty β} {C : Ty γ} {pos p : Pos}
  {wa : (α → Prop) → Prop} {wb : (β → Prop) → Prop} {wl wl2 : (List α → Prop) → Prop} {wi wj : (Int → Prop) → Prop} {ws wt : (Str → Prop) → Prop} {wd : (List (Str × α) → Prop) → Prop}

/-! ### lists read -/
theorem xl_of (h : XE X z Γ e (tyL A) wl) : XL X z Γ e A wl := fun G0 H0 σ G H k Q E hw hk =>
  h G0 H0 σ G H k Q E hw fun G1 H1 v xs W1 S1 ⟨p, vs, ev, hp, r⟩ q => by
    subst ev
    exact hk G1 H1 p vs xs W1 S1 (W1.lst hp (fun _ => by intro e; cases e)) r q
theorem xl_own (i : Nat) {x : Str} {xs : List α} (hΓ : Γ[i]? = some (.ml A xs)) (hN : X.N[i]? = some x) (hv : Vis X.env.scope x) (hd : (x == ("__debug__" : Str)) = false := by decide) (hcd : (x == ("__classdict__" : Str)) = false := by decide) :
    XL X z Γ (.Name x pos) A (fun k => k xs) := fun G0 H0 σ G H k Q E hw hk => by
  obtain ⟨o, e, l, vs, rfl, r, q⟩ := E.at_ hΓ
  exact ⟨_, pe_var hN hv hd hcd, _, e, hk G H l vs xs E.wd (Stp.refl _ _ _) ⟨r.z, r.h⟩ q hw⟩
theorem xd_of (h : XE X z Γ e (tyD A) wd) : XD X z Γ e A wd := fun G0 H0 σ G H k Q E hw hk =>
  h G0 H0 σ G H k Q E hw fun G1 H1 v xs W1 S1 ⟨p, vs, ev, hp, r⟩ q => by
    subst ev
    exact hk G1 H1 p vs xs W1 S1 (W1.dk hp) r q
theorem xd_own (i : Nat) {x : Str} {xs : List (Str × α)} (hΓ : Γ[i]? = some (.md A xs)) (hN : X.N[i]? = some x) (hv : Vis X.env.scope x) (hd : (x == ("__debug__" : Str)) = false := by decide) (hcd : (x == ("__classdict__" : Str)) = false := by decide) :
    XD X z Γ (.Name x pos) A (fun k => k xs) := fun G0 H0 σ G H k Q E hw hk => by
  obtain ⟨o, e, l, vs, rfl, r, q⟩ := E.at_ hΓ
  exact ⟨_, pe_var hN hv hd hcd, _, e, hk G H l vs xs E.wd (Stp.refl _ _ _) ⟨r.z, .inl r.h⟩ q hw⟩
/-! ### len -/
theorem xe_len (hm : X.mg "len" = none) (h : XL X z Γ a A wl) (hg : Gl X "len" := by rfl) (hs : starEach (a :: []) X.env = (false, eval a X.env) :: starEach [] X.env := by rfl) :
    XE X z Γ (.Call (.Name "len" p) [a] [] pos) tyI (fun k => wl fun xs => k (xs.length : Int)) := fun G0 H0 σ G H k Q E hw hk =>
  ⟨_, pe_callB call_len_seq hg hm PySem.boot_len (pa_cons re pa_nil hs) (by decide) (by decide) hs rfl, h G0 H0 σ G H _ _ E hw fun G1 H1 q vs xs W1 S1 sq r h1 =>
    ⟨q, vs, rfl, .inl (SqL.of sq.r), hk G1 H1 _ _ W1 S1 (by rw [r.length]; rfl) h1⟩⟩
theorem xe_lenP (hm : X.mg "len" = none) (h : XE X z Γ a (tyP A) wl) (hg : Gl X "len" := by rfl) (hs : starEach (a :: []) X.env = (false, eval a X.env) :: starEach [] X.env := by rfl) :
    XE X z Γ (.Call (.Name "len" p) [a] [] pos) tyI (fun k => wl fun xs => k (xs.length : Int)) := fun G0 H0 σ G H k Q E hw hk =>
  ⟨_, pe_callB call_len_seq hg hm PySem.boot_len (pa_cons re pa_nil hs) (by decide) (by decide) hs rfl, h G0 H0 σ G H _ _ E hw fun G1 H1 v xs W1 S1 ⟨q, vs, ev, hq, r⟩ h1 => by
    subst ev
    exact ⟨q, vs, rfl, .inr (SqT.of (W1.lst hq (fun _ => by intro e; cases e)).r), hk G1 H1 _ _ W1 S1 (by rw [r.length]; rfl) h1⟩⟩
theorem xe_lenS (hm : X.mg "len" = none) (h : XE X z Γ a tyS ws) (hg : Gl X "len" := by rfl) (hs : starEach (a :: []) X.env = (false, eval a X.env) :: starEach [] X.env := by rfl) :
    XE X z Γ (.Call (.Name "len" p) [a] [] pos) tyI (fun k => ws fun s => s.length ≤ sizeLine ∧ k (s.length : Int)) := fun G0 H0 σ G H k Q E hw hk =>
  ⟨_, pe_callB call_len hg hm PySem.boot_len (pa_cons re pa_nil hs) (by decide) (by decide) hs rfl, h G0 H0 σ G H _ _ E hw fun G1 H1 v s W1 S1 r h1 =>
    ⟨v, s.length, rfl, by rw [show v = V.str s from r.1]; exact ⟨h1.1, rfl⟩, hk G1 H1 _ _ W1 S1 rfl h1.2⟩⟩
theorem xe_lenD (hm : X.mg "len" = none) (h : XE X z Γ a (tyD A) wd) (hg : Gl X "len" := by rfl) (hs : starEach (a :: []) X.env = (false, eval a X.env) :: starEach [] X.env := by rfl)
    (hc : CallR X (.builtin "len") (fun xs H Q => ∃ d kvs, xs = [.ref d] ∧ Rd H d (.dK kvs) ∧ Q (.int kvs.length) H)) :
    XE X z Γ (.Call (.Name "len" p) [a] [] pos) tyI (fun k => wd fun xs => k (xs.length : Int)) := fun G0 H0 σ G H k Q E hw hk =>
  ⟨_, pe_callB hc hg hm PySem.boot_len (pa_cons re pa_nil hs) (by decide) (by decide) hs rfl, h G0 H0 σ G H _ _ E hw fun G1 H1 v xs W1 S1 ⟨q, vs, ev, hq, r⟩ h1 => by
    subst ev
    exact ⟨q, vs, rfl, (W1.dk hq).r, hk G1 H1 _ _ W1 S1 (by rw [r.length]; rfl) h1⟩⟩
/-! ### items -/
theorem xe_ix (h : XL X z Γ a A wl) (hi : XE X z Γ b tyI wi) (hs : PlainIx b) : XE X z Γ (.Subscript a b pos) A (fun k => wl fun xs => wi fun i => ∃ y, atI xs i = some y ∧ k y) := fun G0 H0 σ G H k Q E hw hk =>
  ⟨_, pe_ix ix_list re re hs, h G0 H0 σ G H _ _ E hw fun G1 H1 q vs xs W1 S1 sq r h1 => hi G0 H0 σ G1 H1 _ _ (E.step W1 S1) h1 fun G2 H2 u i W2 S2 r2 ⟨y, ey, h2⟩ => by
    obtain ⟨v, ev, rv⟩ := Paired.atI (Paired.mono (fun _ _ => A.mono S2.g) r) ey
    exact ⟨q, vs, i, v, rfl, r2, SqL.of (sq.step S2).r, ev, hk G2 H2 v y W2 (S1.trans S2) rv h2⟩⟩
theorem xe_ixP (h : XE X z Γ a (tyP A) wl) (hi : XE X z Γ b tyI wi) (hs : PlainIx b) : XE X z Γ (.Subscript a b pos) A (fun k => wl fun xs => wi fun i => ∃ y, atI xs i = some y ∧ k y) := fun G0 H0 σ G H k Q E hw hk =>
  ⟨_, pe_ix ix_tup re re hs, h G0 H0 σ G H _ _ E hw fun G1 H1 q xs W1 S1 ⟨p, vs, ev, hp, r⟩ h1 => hi G0 H0 σ G1 H1 _ _ (E.step W1 S1) h1 fun G2 H2 u i W2 S2 r2 ⟨y, ey, h2⟩ => by
    obtain ⟨v, ev', rv⟩ := Paired.atI (Paired.mono (fun _ _ => A.mono S2.g) r) ey
    exact ⟨p, vs, i, v, ev, r2, SqT.of ((W1.lst hp (fun _ => by intro e; cases e)).step S2).r, ev', hk G2 H2 v y W2 (S1.trans S2) rv h2⟩⟩
theorem xe_ixS (h : XE X z Γ a tyS ws) (hi : XE X z Γ b tyI wi) (hs : PlainIx b) : XE X z Γ (.Subscript a b pos) tyS (fun k => ws fun s => wi fun i => s.length ≤ sizeLine ∧ ∃ c, atI s.cps.toList i = some c ∧ k ⟨#[c]⟩) := fun G0 H0 σ G H k Q E hw hk =>
  ⟨_, pe_ix ix_str re re hs, h G0 H0 σ G H _ _ E hw fun G1 H1 q s W1 S1 r h1 => hi G0 H0 σ G1 H1 _ _ (E.step W1 S1) h1 fun G2 H2 u i W2 S2 r2 ⟨hl, c, ec, h2⟩ =>
    ⟨s, i, c, r.1, r2, hl, ec, hk G2 H2 _ _ W2 (S1.trans S2) ⟨rfl, sok_one r.2 (by
      unfold L2.atI at ec
      cases q : ixN s.cps.toList.length i with
      | none => rw [q] at ec; cases ec
      | some j => rw [q] at ec; exact List.mem_of_getElem? ec)⟩ h2⟩⟩
/-- the i-th of a row -/
def RowAt {ρ : Type} (R : Row ρ) (i : Nat) (A : Ty α) (f : ρ → α) : Prop := ∀ G vs x, R.rep G vs x → ∃ v, vs[i]? = some v ∧ A.rep G v (f x)
theorem ra_one : RowAt (Row.one A) 0 A id := fun _ _ _ ⟨v, e, r⟩ => ⟨v, by rw [e]; rfl, r⟩
theorem ra_zero {ρ : Type} {R : Row ρ} : RowAt (Row.cons A R) 0 A Prod.fst := fun _ _ _ ⟨v, r, e, h, _⟩ => ⟨v, by rw [e]; rfl, h⟩
theorem ra_succ {ρ : Type} {R : Row ρ} {i : Nat} {f : ρ → α} (h : RowAt R i A f) : RowAt (Row.cons B R) (i + 1) A (fun x => f x.2) := fun G _ _ ⟨v, r, e, _, q⟩ => by
  obtain ⟨u, h1, h2⟩ := h G _ _ q
  exact ⟨u, by rw [e]; exact h1, h2⟩
section
variable {ρ : Type} {R : Row ρ} {wr : (ρ → Prop) → Prop} {f : ρ → α} {i : Nat} {es : List Expr}
theorem xe_itT (h : XE X z Γ a (tyT R) wr) (hr : RowAt R i A f) (hi : XE X z Γ b tyI (fun k => k (i : Int))) (hs : PlainIx b) : XE X z Γ (.Subscript a b pos) A (fun k => wr fun x => k (f x)) := fun G0 H0 σ G H k Q E hw hk =>
  ⟨_, pe_ix ix_tup re re hs, h G0 H0 σ G H _ _ E hw fun G1 H1 q x W1 S1 ⟨p, vs, ev, hp, r⟩ h1 => hi G0 H0 σ G1 H1 (fun y => y = (i : Int)) _ (E.step W1 S1) rfl fun G2 H2 u j W2 S2 r2 ej => by
    obtain ⟨v, e, rv⟩ := hr G1 vs x r
    subst ej
    exact ⟨p, vs, i, v, ev, r2, SqT.of ((W1.lst hp (fun _ => by intro e; cases e)).step S2).r, atI_nat e, hk G2 H2 v _ W2 (S1.trans S2) (A.mono S2.g rv) h1⟩⟩
theorem xe_itM (h : XE X z Γ a (tyM R) wr) (hr : RowAt R i A f) (hi : XE X z Γ b tyI (fun k => k (i : Int))) (hs : PlainIx b) : XE X z Γ (.Subscript a b pos) A (fun k => wr fun x => k (f x)) := fun G0 H0 σ G H k Q E hw hk =>
  ⟨_, pe_ix ix_list re re hs, h G0 H0 σ G H _ _ E hw fun G1 H1 q x W1 S1 ⟨p, vs, ev, hp, r⟩ h1 => hi G0 H0 σ G1 H1 (fun y => y = (i : Int)) _ (E.step W1 S1) rfl fun G2 H2 u j W2 S2 r2 ej => by
    obtain ⟨v, e, rv⟩ := hr G1 vs x r
    subst ej
    exact ⟨p, vs, i, v, ev, r2, SqL.of ((W1.lst hp (fun _ => by intro e; cases e)).step S2).r, atI_nat e, hk G2 H2 v _ W2 (S1.trans S2) (A.mono S2.g rv) h1⟩⟩
end
/-! ### slices -/
def XO (X : Cx) (z : Zs) (Γ : List Sl) (e : Option Expr) (w : (Option Int → Prop) → Prop) : Prop :=
  ∀ (G0 H0 : Hp) (σ : L2.St) (G H : Hp) (k : Option Int → Prop), Ev z G0 H0 G H σ Γ → w k → ∃ t, PO X e t ∧ ∀ Q, (∀ G' H' y, Wd z G' H' → Stp z G H G' H' → k y → Q y H') → t σ H Q
variable {lo hi : Option Expr} {wlo whi : (Option Int → Prop) → Prop} {p2 : Pos}
theorem xo_none : XO X z Γ none (fun k => k none) := fun G0 H0 σ G H k E hw => ⟨_, po_none, fun Q hk => hk G H none E.wd (Stp.refl _ _ _) hw⟩
theorem xo_some (h : XE X z Γ e tyI wi) : XO X z Γ (some e) (fun k => wi fun i => k (some i)) := fun G0 H0 σ G H k E hw =>
  ⟨_, po_some re, fun Q hk => h G0 H0 σ G H _ _ E hw fun G1 H1 v i W1 S1 r h1 => ⟨i, r, hk G1 H1 _ W1 S1 h1⟩⟩
def RO (X : Cx) (e : Option Expr) : TO := fun σ H Q => ∃ t, PO X e t ∧ t σ H Q
theorem ro {e : Option Expr} : PO X e (RO X e) := ⟨fun pins s σ H Q I ⟨_, hp, h⟩ => hp.run pins s σ H Q I h⟩
theorem XO.ro {G0 H0 : Hp} {σ : L2.St} {G H : Hp} {k : Option Int → Prop} {Q : Option Int → Hp → Prop} (h : XO X z Γ lo wlo) (E : Ev z G0 H0 G H σ Γ) (hw : wlo k) (hk : ∀ G' H' y, Wd z G' H' → Stp z G H G' H' → k y → Q y H') : RO X lo σ H Q := by
  obtain ⟨t, h1, h2⟩ := h G0 H0 σ G H k E hw
  exact ⟨t, h1, h2 Q hk⟩
theorem xe_slL (h : XL X z Γ a A wl) (h1 : XO X z Γ lo wlo) (h2 : XO X z Γ hi whi) : XE X z Γ (.Subscript a (.Slice lo hi none p2) pos) (tyL A) (fun k => wl fun xs => wlo fun l => whi fun u => k (cutA xs l u)) := fun G0 H0 σ G H k Q E hw hk =>
  ⟨_, pe_slice sl_list re ro ro, h G0 H0 σ G H _ _ E hw fun G1 H1 q vs xs W1 S1 sq r g1 => h1.ro (E.step W1 S1) g1 fun G2 H2 l W2 S2 g2 => h2.ro (E.step W2 (S1.trans S2)) g2 fun G3 H3 u W3 S3 g3 =>
    ⟨q, vs, rfl, SqL.of ((sq.step S2).step S3).r, fun p hp => hk _ _ _ _ (W3.new hp) (((S1.trans S2).trans S3).trans (Stp.new W3.gh hp))
      ⟨p, _, rfl, upd_same, Paired.mono (fun _ _ => A.mono (S2.g.trans (S3.g.trans (same_new (W3.gh.free hp))))) (Paired.cut r l u)⟩ g3⟩⟩
theorem xe_slS (h : XE X z Γ a tyS ws) (h1 : XO X z Γ lo wlo) (h2 : XO X z Γ hi whi) : XE X z Γ (.Subscript a (.Slice lo hi none p2) pos) tyS (fun k => ws fun s => wlo fun l => whi fun u => s.length ≤ sizeLine ∧ k (cutS s l u)) := fun G0 H0 σ G H k Q E hw hk =>
  ⟨_, pe_slice sl_str re ro ro, h G0 H0 σ G H _ _ E hw fun G1 H1 v s W1 S1 r g1 => h1.ro (E.step W1 S1) g1 fun G2 H2 l W2 S2 g2 => h2.ro (E.step W2 (S1.trans S2)) g2 fun G3 H3 u W3 S3 g3 =>
    ⟨s, r.1, g3.1, hk _ _ _ _ W3 ((S1.trans S2).trans S3) ⟨rfl, sok_iff.mpr fun c hc => sok_iff.mp r.2 c (by
      unfold cutS at hc
      simp only [List.toList_toArray] at hc
      exact List.mem_of_mem_drop (List.mem_of_mem_take hc))⟩ g3.2⟩⟩
/-! ### +, in -/
theorem xe_addS (h : XE X z Γ a tyS ws) (h2 : XE X z Γ b tyS wt) : XE X z Γ (.BinOp a .Add b pos) tyS (fun k => ws fun s => wt fun t => s.length + t.length ≤ sizeLine ∧ k (s ++ t)) :=
  xe_op (A := tyS) (B := tyS) (C := tyS) op_add_str (w2 := fun s t k => s.length + t.length ≤ sizeLine ∧ k (s ++ t)) (op2_h fun _ _ _ _ x y _ _ r1 r2 hw hk => ⟨x, y, r1.1, r2.1, hw.1, hk _ _ ⟨rfl, sok_app r1.2 r2.2⟩ hw.2⟩) h h2
theorem xe_cat (h : XL X z Γ a A wl) (h2 : XL X z Γ b A wl2) : XE X z Γ (.BinOp a .Add b pos) (tyL A) (fun k => wl fun xs => wl2 fun ys => xs.length + ys.length ≤ sizeLine ∧ k (xs ++ ys)) := fun G0 H0 σ G H k Q E hw hk =>
  ⟨_, pe_op op_cat re re, h G0 H0 σ G H _ _ E hw fun G1 H1 q vs xs W1 S1 sq r g1 => h2 G0 H0 σ G1 H1 _ _ (E.step W1 S1) g1 fun G2 H2 q2 vs2 ys W2 S2 sq2 r2 ⟨hl, g2⟩ =>
    ⟨q, q2, vs, vs2, rfl, rfl, (sq.step S2).r, sq2.r, by rw [r.length, r2.length]; exact hl, fun p hp => hk _ _ _ _ (W2.new hp) ((S1.trans S2).trans (Stp.new W2.gh hp))
      ⟨p, _, rfl, upd_same, Paired.mono (fun _ _ => A.mono (same_new (W2.gh.free hp))) (Paired.app (Paired.mono (fun _ _ => A.mono S2.g) r) r2)⟩ g2⟩⟩
theorem scal_all [s : Scal A] : ∀ {vs : List V} {xs : List α} {G : Hp}, Paired (A.rep G) vs xs → vs.all flatV = true
  | _, _, _, .nil => rfl
  | _, _, _, .cons r t => by rw [List.all_cons, scal_all t, s.rep r, s.fl]; rfl
theorem eqV_int {i j : Int} : eqV (.int i) (.int j) = decide (i = j) := by
  show (i == j) = _
  rw [Bool.eq_iff_iff]; simp
class ScalEq (A : Ty α) [DecidableEq α] [s : Scal A] : Prop where
  ev : ∀ x y : α, eqV (s.val x) (s.val y) = decide (x = y)
instance : ScalEq tyI := ⟨fun x y => eqV_int⟩
instance : ScalEq tyS := ⟨fun x y => by
  show (x == y) = _
  rw [Bool.eq_iff_iff]
  simp only [beq_iff_eq, decide_eq_true_eq]⟩
theorem inV_mem [DecidableEq α] [s : Scal A] [q : ScalEq A] {x : α} : ∀ {vs : List V} {xs : List α} {G : Hp}, Paired (A.rep G) vs xs → inV (s.val x) vs = decide (x ∈ xs)
  | _, _, _, .nil => by simp [inV]
  | _, _, _, .cons (a := v) (b := y) (l₁ := vs) (l₂ := xs) r t => by
    have ih := inV_mem (x := x) t
    unfold inV at ih ⊢
    rw [List.any_cons, ih, s.rep r, q.ev]
    by_cases e1 : y = x
    · rw [decide_eq_true e1, decide_eq_true (show x ∈ y :: xs from e1 ▸ List.mem_cons_self)]
      rfl
    · rw [decide_eq_false e1, Bool.false_or]
      by_cases e2 : x ∈ xs
      · rw [decide_eq_true e2, decide_eq_true (List.mem_cons_of_mem _ e2)]
      · rw [decide_eq_false e2, decide_eq_false fun h => (List.mem_cons.mp h).elim (fun h => e1 h.symm) e2]
theorem o2_in [DecidableEq α] [s : Scal A] [ScalEq A] (h : XE X z Γ a A wa) (h2 : XL X z Γ b A wl) {G0 H0 : Hp} {σ : L2.St} {G H : Hp} {k : Bool → Prop} {Q : VK} {neg : Bool} (E : Ev z G0 H0 G H σ Γ) (hw : wa fun x => wl fun xs => k (if neg then !decide (x ∈ xs) else decide (x ∈ xs)))
    (hk : ∀ G' H' v y, Wd z G' H' → Stp z G H G' H' → tyB.rep G' v y → k y → Q v H') : tOp (rIn X.K neg) (RE X a) (RE X b) σ H Q :=
  h G0 H0 σ G H _ _ E hw fun G1 H1 v x W1 S1 r g1 => h2 G0 H0 σ G1 H1 _ _ (E.step W1 S1) g1 fun G2 H2 q2 vs2 ys W2 S2 sq2 r2 g2 => by
    rw [s.rep r]
    refine ⟨q2, vs2, rfl, .inl (SqL.of sq2.r), s.fl x, scal_all r2, ?_⟩
    rw [inV_mem r2]
    exact hk G2 H2 _ _ W2 (S1.trans S2) rfl g2
theorem xt_in [DecidableEq α] [s : Scal A] [ScalEq A] (h : XE X z Γ a A wa) (h2 : XL X z Γ b A wl) (hm : behindInMarks .In b = false := by rfl) : XT X z Γ (.Compare a [.In] [b] pos) (fun k => wa fun x => wl fun xs => k (decide (x ∈ xs))) := fun G0 H0 σ G H k Q E hw hk =>
  ⟨_, pt_cmpR op_in_seq re re hm, o2_in (neg := false) (k := k) h h2 E hw fun G' H' v y W S r q => ⟨y, r, hk G' H' y W S q⟩⟩
theorem xt_notIn [DecidableEq α] [s : Scal A] [ScalEq A] (h : XE X z Γ a A wa) (h2 : XL X z Γ b A wl) (hm : behindInMarks .NotIn b = false := by rfl) : XT X z Γ (.Compare a [.NotIn] [b] pos) (fun k => wa fun x => wl fun xs => k (!decide (x ∈ xs))) := fun G0 H0 σ G H k Q E hw hk =>
  ⟨_, pt_cmpR op_notIn_seq re re hm, o2_in (neg := true) (k := k) h h2 E hw fun G' H' v y W S r q => ⟨y, r, hk G' H' y W S q⟩⟩
theorem xe_in [DecidableEq α] [s : Scal A] [ScalEq A] (h : XE X z Γ a A wa) (h2 : XL X z Γ b A wl) (hm : behindInMarks .In b = false := by rfl) : XE X z Γ (.Compare a [.In] [b] pos) tyB (fun k => wa fun x => wl fun xs => k (decide (x ∈ xs))) := fun G0 H0 σ G H k Q E hw hk =>
  ⟨_, pe_cmpR op_in_seq re re hm, o2_in (neg := false) (k := k) h h2 E hw hk⟩
theorem o2_inP [DecidableEq α] [s : Scal A] [ScalEq A] (h : XE X z Γ a A wa) (h2 : XE X z Γ b (tyP A) wl) {G0 H0 : Hp} {σ : L2.St} {G H : Hp} {k : Bool → Prop} {Q : VK} {neg : Bool} (E : Ev z G0 H0 G H σ Γ) (hw : wa fun x => wl fun xs => k (if neg then !decide (x ∈ xs) else decide (x ∈ xs)))
    (hk : ∀ G' H' v y, Wd z G' H' → Stp z G H G' H' → tyB.rep G' v y → k y → Q v H') : tOp (rIn X.K neg) (RE X a) (RE X b) σ H Q :=
  h G0 H0 σ G H _ _ E hw fun G1 H1 v x W1 S1 r g1 => h2 G0 H0 σ G1 H1 _ _ (E.step W1 S1) g1 fun G2 H2 v2 ys W2 S2 ⟨q2, vs2, ev, hq, r2⟩ g2 => by
    rw [s.rep r]
    subst ev
    refine ⟨q2, vs2, rfl, .inr (SqT.of (W2.lst hq (fun _ => by intro e; cases e)).r), s.fl x, scal_all r2, ?_⟩
    rw [inV_mem r2]
    exact hk G2 H2 _ _ W2 (S1.trans S2) rfl g2
theorem xt_inP [DecidableEq α] [s : Scal A] [ScalEq A] (h : XE X z Γ a A wa) (h2 : XE X z Γ b (tyP A) wl) (hm : behindInMarks .In b = false := by rfl) : XT X z Γ (.Compare a [.In] [b] pos) (fun k => wa fun x => wl fun xs => k (decide (x ∈ xs))) := fun G0 H0 σ G H k Q E hw hk =>
  ⟨_, pt_cmpR op_in_seq re re hm, o2_inP (neg := false) (k := k) h h2 E hw fun G' H' v y W S r q => ⟨y, r, hk G' H' y W S q⟩⟩
theorem xe_inP [DecidableEq α] [s : Scal A] [ScalEq A] (h : XE X z Γ a A wa) (h2 : XE X z Γ b (tyP A) wl) (hm : behindInMarks .In b = false := by rfl) : XE X z Γ (.Compare a [.In] [b] pos) tyB (fun k => wa fun x => wl fun xs => k (decide (x ∈ xs))) := fun G0 H0 σ G H k Q E hw hk =>
  ⟨_, pe_cmpR op_in_seq re re hm, o2_inP (neg := false) (k := k) h h2 E hw hk⟩
theorem xt_notInP [DecidableEq α] [s : Scal A] [ScalEq A] (h : XE X z Γ a A wa) (h2 : XE X z Γ b (tyP A) wl) (hm : behindInMarks .NotIn b = false := by rfl) : XT X z Γ (.Compare a [.NotIn] [b] pos) (fun k => wa fun x => wl fun xs => k (!decide (x ∈ xs))) := fun G0 H0 σ G H k Q E hw hk =>
  ⟨_, pt_cmpR op_notIn_seq re re hm, o2_inP (neg := true) (k := k) h h2 E hw fun G' H' v y W S r q => ⟨y, r, hk G' H' y W S q⟩⟩
/-! ### dicts with text keys -/
def look {α : Type} (d : List (Str × α)) (k : Str) : Option α := (d.find? fun kv => decide (kv.1 = k)).map (·.2)
theorem look_rel {G : Hp} (k : Str) : ∀ {ks : List (Key × V)} {d : List (Str × α)}, Paired (kvR A G) ks d → match look d k with
    | none => valV ks (.inr k) = none
    | some y => ∃ v, valV ks (.inr k) = some v ∧ A.rep G v y
  | _, _, .nil => rfl
  | _, _, .cons (a := p) (b := q) (l₁ := ks) (l₂ := d) r t => by
    have ih := look_rel k t
    unfold look at ih ⊢
    by_cases h : q.1 = k
    · have hp : p.1 = .inr k := by rw [r.1.1, h]
      rw [List.find?_cons, decide_eq_true h]
      exact ⟨p.2, valV_pos hp, r.2⟩
    · have hp : ¬ p.1 = .inr k := fun e => h (by rw [r.1.1] at e; injection e)
      rw [List.find?_cons, decide_eq_false h, valV_neg hp]
      exact ih
theorem DqZ.get {H G : Hp} {q : Addr} {ks : List (Key × V)} {d : List (Str × α)} (sq : DqZ z H q (.dK ks)) (r : Paired (kvR A G) ks d) (k : Str) : DGet H q (.str k) (valV ks (.inr k)) := .inl ⟨ks, .inr k, sq.r, rfl, rfl⟩
theorem xt_inD (hu : X.A.units + 1 < cLine) (h : XE X z Γ a tyS ws) (h2 : XD X z Γ b A wd) (hm : behindInMarks .In b = false := by rfl) : XT X z Γ (.Compare a [.In] [b] pos) (fun k => ws fun s => wd fun d => k (look d s).isSome) := fun G0 H0 σ G H k Q E hw hk =>
  ⟨_, pt_cmp (pc_din hu re re) hm, h G0 H0 σ G H _ _ E hw fun G1 H1 v s W1 S1 r g1 => h2 G0 H0 σ G1 H1 _ _ (E.step W1 S1) g1 fun G2 H2 q ks d W2 S2 sq r2 g2 => by
    refine ⟨q, _, rfl, by rw [show v = V.str s from r.1]; exact sq.get r2 s, (look d s).isSome, ?_, hk G2 H2 _ W2 (S1.trans S2) g2⟩
    have e := look_rel s r2
    cases hl : look d s with
    | none => rw [hl] at e; rw [show valV ks (.inr s) = none from e]; rfl
    | some y => rw [hl] at e; obtain ⟨u, e, _⟩ := e; rw [e]; rfl⟩
theorem xt_notInD (hu : X.A.units + 1 < cLine) (h : XE X z Γ a tyS ws) (h2 : XD X z Γ b A wd) (hm : behindInMarks .NotIn b = false := by rfl) : XT X z Γ (.Compare a [.NotIn] [b] pos) (fun k => ws fun s => wd fun d => k (!(look d s).isSome)) := fun G0 H0 σ G H k Q E hw hk =>
  ⟨_, pt_cmp (pc_dnotin hu re re) hm, h G0 H0 σ G H _ _ E hw fun G1 H1 v s W1 S1 r g1 => h2 G0 H0 σ G1 H1 _ _ (E.step W1 S1) g1 fun G2 H2 q ks d W2 S2 sq r2 g2 => by
    refine ⟨q, _, rfl, by rw [show v = V.str s from r.1]; exact sq.get r2 s, !(look d s).isSome, ?_, hk G2 H2 _ W2 (S1.trans S2) g2⟩
    have e := look_rel s r2
    cases hl : look d s with
    | none => rw [hl] at e; rw [show valV ks (.inr s) = none from e]; rfl
    | some y => rw [hl] at e; obtain ⟨u, e, _⟩ := e; rw [e]; rfl⟩
theorem xe_get (hu : X.A.units + 1 < cLine) (h : XD X z Γ a A wd) (hi : XE X z Γ b tyS ws) (hs : NoSl b) : XE X z Γ (.Subscript a b pos) A (fun k => wd fun d => ws fun s => ∃ y, look d s = some y ∧ k y) := fun G0 H0 σ G H k Q E hw hk =>
  ⟨_, pe_dget hu re re hs, h G0 H0 σ G H _ _ E hw fun G1 H1 q ks d W1 S1 sq r g1 => hi G0 H0 σ G1 H1 _ _ (E.step W1 S1) g1 fun G2 H2 v s W2 S2 r2 ⟨y, ey, g2⟩ => by
    have r' : Paired (kvR A G2) ks d := Paired.mono (fun _ _ z => ⟨z.1, A.mono S2.g z.2⟩) r
    have e := look_rel s r'
    rw [ey] at e
    obtain ⟨u, e, ru⟩ := e
    refine ⟨q, u, rfl, ?_, hk G2 H2 u y W2 (S1.trans S2) ru g2⟩
    rw [show v = V.str s from r2.1, ← e]
    exact (sq.step S2).get r' s⟩
theorem xe_getD {c : Expr} {apos : Pos} (hu : X.A.units + 1 < cLine) (h : XD X z Γ a A wd) (hi : XE X z Γ b tyS ws) (hc : XE X z Γ c A wa) (m : M2 X a "get" apos b c pos) : XE X z Γ (.Call (.Attribute a "get" apos) [b, c] [] pos) A (fun k => wd fun d => ws fun s => wa fun y => k ((look d s).getD y)) := fun G0 H0 σ G H k Q E hw hk =>
  ⟨_, pe_dget2 hu re re re m, h G0 H0 σ G H _ _ E hw fun G1 H1 q ks d W1 S1 sq r g1 => ⟨q, rfl, .inl ⟨ks, sq.r⟩, hi G0 H0 σ G1 H1 _ _ (E.step W1 S1) g1 fun G2 H2 v s W2 S2 r2 g2 => hc G0 H0 σ G2 H2 _ _ (E.step W2 (S1.trans S2)) g2 fun G3 H3 u y W3 S3 r3 g3 => by
    have r' : Paired (kvR A G3) ks d := Paired.mono (fun _ _ z => ⟨z.1, A.mono (S2.g.trans S3.g) z.2⟩) r
    have e := look_rel s r'
    refine ⟨valV ks (.inr s), ?_, hk G3 H3 _ ((look d s).getD y) W3 ((S1.trans S2).trans S3) ?_ g3⟩
    · rw [show v = V.str s from r2.1]
      exact ((sq.step S2).step S3).get r' s
    · cases hl : look d s with
      | none => rw [hl] at e; rw [show valV ks (.inr s) = none from e]; exact r3
      | some w => rw [hl] at e; obtain ⟨u', e, ru⟩ := e; rw [e]; exact ru⟩⟩
/-! ### built-in calls -/
variable {id x : String}
theorem xe_max2 (hc : X.calm = true) (hm : X.mg "max" = none) (ha : XE X z Γ a tyI wi) (hb : XE X z Γ b tyI wj) (hg : Gl X "max" := by rfl) (hs : starEach (a :: [b]) X.env = (false, eval a X.env) :: starEach [b] X.env := by rfl) (hs2 : starEach (b :: []) X.env = (false, eval b X.env) :: starEach [] X.env := by rfl)
    (hpl : (backTo pos (starEach [b] X.env)).any (·.1) = false := by rfl) : XE X z Γ (.Call (.Name "max" p) [a, b] [] pos) tyI (fun k => wi fun x => wj fun y => k (max x y)) := fun G0 H0 σ G H k Q E hw hk =>
  ⟨_, pe_callB (call_max2 hc) hg hm (by decide +kernel) (pa_cons re (pa_cons re pa_nil hs2) hs) (by decide) (by decide) hs hpl, ha G0 H0 σ G H _ _ E hw fun G1 H1 v x W1 S1 r g1 => hb G0 H0 σ G1 H1 _ _ (E.step W1 S1) g1 fun G2 H2 u y W2 S2 r2 g2 =>
    ⟨x, y, by rw [show v = V.int x from r, show u = V.int y from r2], hk G2 H2 _ (max x y) W2 (S1.trans S2) (by show V.int _ = V.int _; congr 1; split <;> omega) g2⟩⟩
theorem xe_min2 (hc : X.calm = true) (hm : X.mg "min" = none) (ha : XE X z Γ a tyI wi) (hb : XE X z Γ b tyI wj) (hg : Gl X "min" := by rfl) (hs : starEach (a :: [b]) X.env = (false, eval a X.env) :: starEach [b] X.env := by rfl) (hs2 : starEach (b :: []) X.env = (false, eval b X.env) :: starEach [] X.env := by rfl)
    (hpl : (backTo pos (starEach [b] X.env)).any (·.1) = false := by rfl) : XE X z Γ (.Call (.Name "min" p) [a, b] [] pos) tyI (fun k => wi fun x => wj fun y => k (min x y)) := fun G0 H0 σ G H k Q E hw hk =>
  ⟨_, pe_callB (call_min2 hc) hg hm (by decide +kernel) (pa_cons re (pa_cons re pa_nil hs2) hs) (by decide) (by decide) hs hpl, ha G0 H0 σ G H _ _ E hw fun G1 H1 v x W1 S1 r g1 => hb G0 H0 σ G1 H1 _ _ (E.step W1 S1) g1 fun G2 H2 u y W2 S2 r2 g2 =>
    ⟨x, y, by rw [show v = V.int x from r, show u = V.int y from r2], hk G2 H2 _ (min x y) W2 (S1.trans S2) (by show V.int _ = V.int _; congr 1; split <;> omega) g2⟩⟩
end
end Zk
/-! TL4: promises, calls, fields. -/
namespace Zk
open PySem PySem.Spec L2

/-! ### promises -/
/-- a def that only makes new things: its arguments in a row, its answer, its pure reading -/
def spP {ρ β : Type} (R : Row ρ) (B : Ty β) (w : ρ → (β → Prop) → Prop) : Sp := fun vs H Q _ => ∃ (G : Hp) (x : ρ) (k : β → Prop), Wd Z0 G H ∧ R.rep G vs x ∧ w x k ∧
  ∀ G' H' v y, Wd Z0 G' H' → Stp Z0 G H G' H' → B.rep G' v y → k y → Q v H'
/-- what the law's state is -/
structure Zm where
  ok : Hp → HO → Prop
  mono : ∀ {G G' : Hp} {o : HO}, Same G G' → ok G o → ok G' o
def Zm.at_ (m : Zm) (s : Addr) : Zs := ⟨some s, m.ok, m.mono⟩
/-- a def whose first argument is the law's state -/
def spS (m : Zm) {ρ β : Type} (R : Row ρ) (B : Ty β) (w : ρ → (β → Prop) → Prop) : Sp := fun vs H Q _ => ∃ (s : Addr) (rs : List V) (G : Hp) (x : ρ) (k : β → Prop), vs = .ref s :: rs ∧ Wd (m.at_ s) G H ∧ R.rep G rs x ∧ w x k ∧
  ∀ G' H' v y, Wd (m.at_ s) G' H' → Stp (m.at_ s) G H G' H' → B.rep G' v y → k y → Q v H'
/-- an __init__ -/
def spI (C : Addr) (ns : List Str) {ρ φ : Type} (R : Row ρ) (Rf : Row φ) (w : ρ → (φ → Prop) → Prop) : Sp := fun vs H Q _ => ∃ (p dx : Addr) (rs : List V) (G Hb : Hp) (x : ρ) (k : φ → Prop), vs = .ref p :: rs ∧
  H = upd (upd Hb dx (.own p)) p (.ins C dx []) ∧ Hb p = none ∧ Hb dx = none ∧ dx ≠ p ∧ Wd Z0 G Hb ∧ R.rep G rs x ∧ w x k ∧
  ∀ G' H' y, Wd Z0 G' H' → Stp Z0 G Hb G' H' → (tyO C ns Rf).rep G' (.ref p) y → k y → Q .non H'
/-- a def of the module that keeps a promise -/
def Cle (P : Program) (w : World) (K : PySem.W.Frag) (mg : Str → Option Value) (base : Heap) (x : Str) (n : Nat) (sp : Sp) : Prop :=
  ∃ (f : Addr) (fd : FuncData) (ps : List Str), FnOk P w K mg base CX0 n f fd ps sp ∧ mg x = some (.ref f) ∧ PySem.W.keepIn K (.ref f) = true ∧ Binds K fd ps []
def CleM (P : Program) (w : World) (K : PySem.W.Frag) (mg : Str → Option Value) (base : Heap) (C : Addr) (m : Str) (n : Nat) (sp : Sp) : Prop :=
  ∃ (f : Addr) (fd : FuncData) (ps : List Str), FnOk P w K mg base CX0 n f fd ps sp ∧ Meth K C m f ∧ Binds K fd ps []
def CleI (P : Program) (w : World) (K : PySem.W.Frag) (mg : Str → Option Value) (base : Heap) (x : Str) (C : Addr) (n : Nat) (sp : Sp) : Prop :=
  ∃ (f : Addr) (fd : FuncData) (ps : List Str), FnOk P w K mg base CX0 n f fd ps sp ∧ Mk K C f ∧ mg x = some (.ref C) ∧ Binds K fd ps []

section
variable {X : Cx} {z : Zs} {Γ : List Sl} {a b c e o : Expr} {es : List Expr} {α β γ ρ φ : Type} {A : Ty α} {B : Ty β} {R : Row ρ} {Rf : Row φ} {pos p apos : Pos} {n : Nat} {x m : Str} {C : Addr} {ns : List Str}
  {wr : (ρ → Prop) → Prop} {wo : (φ → Prop) → Prop}

theorem spP_use {w : ρ → (β → Prop) → Prop} {G H G1 H1 : Hp} {vs : List V} {y : ρ} {k : β → Prop} {Q : VK} (W1 : Wd z G1 H1) (S1 : Stp z G H G1 H1) (r : R.rep G1 vs y) (hw : w y k)
    (hk : ∀ G' H' v y, Wd z G' H' → Stp z G H G' H' → B.rep G' v y → k y → Q v H') : spP R B w (vs ++ []) H1 Q E0 := by
  rw [List.append_nil]
  exact ⟨G1, y, k, W1.z0, r, hw, fun G' H' v y W' S' r' q => hk G' H' v y (W1.after0 W' S') (S1.trans S'.lift) r' q⟩
/-- f(e, ..) -/
theorem xe_call {w : ρ → (β → Prop) → Prop} (F : Cle X.prog X.w X.K X.mg X.base x n (spP R B w)) (hr : Room n X.A) (ha : XA X z Γ (e :: es) R wr) (hg : Gl X x := by rfl)
    (hs : starEach (e :: es) X.env = (false, eval e X.env) :: starEach es X.env := by rfl) (hpl : (backTo pos (starEach es X.env)).any (·.1) = false := by rfl) (hdb : (x == ("__debug__" : Str)) = false := by decide) :
    XE X z Γ (.Call (.Name x p) (e :: es) [] pos) B (fun k => wr fun y => w y k) := fun G0 H0 σ G H k Q E hw hk => by
  obtain ⟨f, fd, ps, F, hm, hkp, hb⟩ := F
  exact ⟨_, pe_call F hr hg hm hkp hb .nil pass0 ra hdb hs hpl, ha G0 H0 σ G H _ _ E hw fun G1 H1 vs y W1 S1 r h1 => spP_use W1 S1 r h1 hk⟩
/-- f() -/
theorem xe_call0 {w : Unit → (β → Prop) → Prop} (F : Cle X.prog X.w X.K X.mg X.base x n (spP Row.nil B w)) (hr : Room n X.A) (hg : Gl X x := by rfl) (hdb : (x == ("__debug__" : Str)) = false := by decide) :
    XE X z Γ (.Call (.Name x p) [] [] pos) B (fun k => w () k) := fun G0 H0 σ G H k Q E hw hk => by
  obtain ⟨f, fd, ps, F, hm, hkp, hb⟩ := F
  exact ⟨_, pe_call0 F hr hg hm hkp hb .nil pass0 hdb, spP_use E.wd (Stp.refl _ _ _) rfl hw hk⟩
/-- f(state, e, ..) -/
theorem xe_callS {mm : Zm} {s : Addr} {w : ρ → (β → Prop) → Prop} {sx : Str} {sp : Pos} (i : Nat) (hΓ : Γ[i]? = some .st) (hN : X.N[i]? = some sx) (hv : Vis X.env.scope sx) (F : Cle X.prog X.w X.K X.mg X.base x n (spS mm R B w)) (hr : Room n X.A) (ha : XA X (mm.at_ s) Γ es R wr) (hg : Gl X x := by rfl)
    (hs : starEach (.Name sx sp :: es) X.env = (false, eval (.Name sx sp) X.env) :: starEach es X.env := by rfl) (hpl : (backTo pos (starEach es X.env)).any (·.1) = false := by rfl) (hdb : (x == ("__debug__" : Str)) = false := by decide)
    (hd : (sx == ("__debug__" : Str)) = false := by decide) (hcd : (sx == ("__classdict__" : Str)) = false := by decide) :
    XE X (mm.at_ s) Γ (.Call (.Name x p) (.Name sx sp :: es) [] pos) B (fun k => wr fun y => w y k) := fun G0 H0 σ G H k Q E hw hk => by
  obtain ⟨f, fd, ps, F, hm, hkp, hb⟩ := F
  obtain ⟨ov, eo, s', es', eo'⟩ := E.at_ hΓ
  subst eo'
  cases es'
  refine ⟨_, pe_call F hr hg hm hkp hb .nil pass0 (pa_cons (pe_var hN hv hd hcd) ra hs) hdb hs hpl, ?_⟩
  refine ⟨_, eo, ha G0 H0 σ G H _ _ E hw fun G1 H1 vs y W1 S1 r h1 => ?_⟩
  show spS mm R B w ((V.ref s :: vs) ++ []) H1 Q E0
  rw [List.append_nil]
  exact ⟨s, vs, G1, y, k, rfl, W1, r, h1, fun G' H' v y W' S' r' q => hk G' H' v y W' (S1.trans S') r' q⟩
/-! ### methods -/
theorem zip_none : ∀ {ns : List Str} {vs : List V}, m ∉ ns → (ns.zip vs).lookup m = none
  | [], _, _ => rfl
  | _ :: _, [], _ => rfl
  | n :: ns, v :: vs, h => by
    have h1 : (m == n) = false := by
      rw [beq_eq_false_iff_ne]
      exact fun e => h (e ▸ List.mem_cons_self)
    show (List.lookup m ((n, v) :: ns.zip vs)) = none
    rw [List.lookup_cons, h1]
    exact zip_none fun q => h (List.mem_cons_of_mem _ q)
theorem zip_some : ∀ {ns : List Str} {vs : List V} {i : Nat} {v : V}, ns.Nodup → ns[i]? = some m → vs[i]? = some v → (ns.zip vs).lookup m = some v
  | [], _, i, _, _, h, _ => by simp at h
  | _ :: _, [], i, _, _, _, h => by simp at h
  | n :: ns, u :: vs, 0, v, _, h1, h2 => by
    have e1 : n = m := Option.some.inj h1
    have e2 : u = v := Option.some.inj h2
    subst e1 e2
    show (List.lookup n ((n, u) :: ns.zip vs)) = some u
    rw [List.lookup_cons, beq_self_eq_true]
  | n :: ns, u :: vs, i + 1, v, nd, h1, h2 => by
    have h1' : ns[i]? = some m := h1
    have hne : (m == n) = false := by
      rw [beq_eq_false_iff_ne]
      intro e
      subst e
      exact (List.nodup_cons.mp nd).1 (List.mem_of_getElem? h1')
    show (List.lookup m ((n, u) :: ns.zip vs)) = some v
    rw [List.lookup_cons, hne]
    exact zip_some (i := i) (List.nodup_cons.mp nd).2 h1' h2
theorem xe_meth {w : φ × ρ → (β → Prop) → Prop} {pl : Sem Bool} (hc : Cls X.K C) (F : CleM X.prog X.w X.K X.mg X.base C m n (spP (Row.cons (tyO C ns Rf) R) B w)) (hr : Room n X.A) (hmn : m ∉ ns) (ho : XE X z Γ o (tyO C ns Rf) wo) (ha : XA X z Γ (e :: es) R wr)
    (hst : starEach (e :: es) X.env = (false, eval e X.env) :: starEach es X.env := by rfl) (hpl : (backTo pos (starEach es X.env)).any (·.1) = false := by rfl)
    (ht : eval (.Call (.Attribute o m apos) (e :: es) [] pos) X.env = (do
      let ov ← eval o X.env
      standAt apos.atName
      let (f, first) ← holding [ov] (getMethod ov m pl)
      callWith pos f first (backTo pos (starEach (e :: es) X.env)) (backToKw pos (keywordEach [] X.env))) := by rfl) :
    XE X z Γ (.Call (.Attribute o m apos) (e :: es) [] pos) B (fun k => wo fun s => wr fun y => w (s, y) k) := fun G0 H0 σ G H k Q E hw hk => by
  obtain ⟨f, fd, ps, F, hm, hb⟩ := F
  refine ⟨_, pe_meth re hc hm F hr hb .nil pass0 ra hst hpl ht, ho G0 H0 σ G H _ _ E hw fun G1 H1 v s W1 S1 r h1 => ?_⟩
  obtain ⟨q, dx, us, ev, hq, r'⟩ := id r
  refine ⟨q, dx, _, ev, (W1.lst hq (fun _ => by intro e; cases e)).r, zip_none hmn, ha G0 H0 σ G1 H1 _ _ (E.step W1 S1) h1 fun G2 H2 vs y W2 S2 r2 h2 => ?_⟩
  exact spP_use (vs := v :: vs) W2 (S1.trans S2) ⟨v, vs, rfl, (tyO C ns Rf).mono S2.g r, r2⟩ h2 hk
theorem xe_meth0 {w : φ → (β → Prop) → Prop} {pl : Sem Bool} (hc : Cls X.K C) (F : CleM X.prog X.w X.K X.mg X.base C m n (spP (Row.one (tyO C ns Rf)) B w)) (hr : Room n X.A) (hmn : m ∉ ns) (ho : XE X z Γ o (tyO C ns Rf) wo)
    (ht : eval (.Call (.Attribute o m apos) [] [] pos) X.env = (do
      let ov ← eval o X.env
      standAt apos.atName
      let (f, first) ← holding [ov] (getMethod ov m pl)
      callWith pos f first (backTo pos (starEach [] X.env)) (backToKw pos (keywordEach [] X.env))) := by rfl) :
    XE X z Γ (.Call (.Attribute o m apos) [] [] pos) B (fun k => wo fun s => w s k) := fun G0 H0 σ G H k Q E hw hk => by
  obtain ⟨f, fd, ps, F, hm, hb⟩ := F
  refine ⟨_, pe_meth0 re hc hm F hr hb .nil pass0 ht, ho G0 H0 σ G H _ _ E hw fun G1 H1 v s W1 S1 r h1 => ?_⟩
  obtain ⟨q, dx, us, ev, hq, r'⟩ := id r
  refine ⟨q, dx, _, ev, (W1.lst hq (fun _ => by intro e; cases e)).r, zip_none hmn, ?_⟩
  exact spP_use (vs := [v]) W1 S1 ⟨v, rfl, r⟩ h1 hk
/-! ### fields -/
theorem xe_fld {f : φ → α} {i : Nat} (hc : Cls X.K C) (hn : NoAttr X.K C m) (hnd : ns.Nodup) (hi : ns[i]? = some m) (hr : RowAt Rf i A f) (h : XE X z Γ e (tyO C ns Rf) wo) (hb : attributeBase e m X.env (eval e X.env) = eval e X.env := by rfl) :
    XE X z Γ (.Attribute e m pos) A (fun k => wo fun s => k (f s)) := fun G0 H0 σ G H k Q E hw hk =>
  ⟨_, pe_fld re hb, h G0 H0 σ G H _ _ E hw fun G1 H1 v s W1 S1 ⟨q, dx, us, ev, hq, r⟩ h1 => by
    obtain ⟨u, hu, ru⟩ := hr G1 us s r
    exact ⟨q, C, dx, _, u, ev, (W1.lst hq (fun _ => by intro e; cases e)).r, hc, hn, zip_some hnd hi hu, hk G1 H1 u _ W1 S1 ru h1⟩⟩
theorem fr_look : ∀ {G : Hp} {vs : List (Str × V)} {fs : List (Str × Fz)} {j : Nat} {g : Fz}, FR G vs fs → (fs.map (·.1)).Nodup → fs[j]? = some (m, g) → ∃ v, vs.lookup m = some v ∧ g.A.rep G v g.x
  | _, _, _, j, _, .nil, _, h => by simp at h
  | _, (a, u) :: vs, _, 0, g, .cons r t, _, h => by
    have e := Option.some.inj (show some _ = some (m, g) from h)
    have e1 : a = m := r.1.trans (congrArg Prod.fst e)
    refine ⟨u, ?_, ?_⟩
    · rw [List.lookup_cons, e1, beq_self_eq_true]
    · have r2 := r.2
      rw [e] at r2
      exact r2
  | _, (a, u) :: vs, f :: fs, j + 1, g, .cons r t, nd, h => by
    have h' : fs[j]? = some (m, g) := h
    obtain ⟨v, h1, h2⟩ := fr_look (j := j) t (List.nodup_cons.mp nd).2 h'
    have hne : (m == a) = false := by
      rw [beq_eq_false_iff_ne]
      intro e
      refine (List.nodup_cons.mp nd).1 ?_
      show f.1 ∈ fs.map (·.1)
      rw [← r.1, show (a, u).1 = m from e.symm]
      exact List.mem_map.mpr ⟨_, List.mem_of_getElem? h', rfl⟩
    exact ⟨v, by rw [List.lookup_cons, hne]; exact h1, h2⟩
/-- self.f within __init__ -/
theorem xe_fldOb {fs : List (Str × Fz)} {sx : Str} {sp : Pos} {q : Addr} {y : α} (i j : Nat) (hΓ : Γ[i]? = some (.ob q C fs)) (hN : X.N[i]? = some sx) (hv : Vis X.env.scope sx) (hc : Cls X.K C) (hn : NoAttr X.K C m) (hnd : (fs.map (·.1)).Nodup) (hj : fs[j]? = some (m, ⟨A, y⟩))
    (hb : attributeBase (.Name sx sp) m X.env (eval (.Name sx sp) X.env) = eval (.Name sx sp) X.env := by rfl) (hd : (sx == ("__debug__" : Str)) = false := by decide) (hcd : (sx == ("__classdict__" : Str)) = false := by decide) :
    XE X z Γ (.Attribute (.Name sx sp) m pos) A (fun k => k y) := fun G0 H0 σ G H k Q E hw hk => by
  obtain ⟨ov, eo, dx, vs, rfl, r, q'⟩ := E.at_ hΓ
  obtain ⟨v, h1, h2⟩ := fr_look q' hnd hj
  exact ⟨_, pe_fld (pe_var hN hv hd hcd) hb, _, eo, _, C, dx, vs, v, rfl, r.h, hc, hn, h1, hk G H v y E.wd (Stp.refl _ _ _) h2 hw⟩
/-! ### C(..) -/
theorem xe_make {w : ρ → (φ → Prop) → Prop} (F : CleI X.prog X.w X.K X.mg X.base x C n (spI C ns R Rf w)) (hr : Room (n + 1) X.A) (ha : XA X z Γ (e :: es) R wr) (hg : Gl X x := by rfl)
    (hs : starEach (e :: es) X.env = (false, eval e X.env) :: starEach es X.env := by rfl) (hpl : (backTo pos (starEach es X.env)).any (·.1) = false := by rfl) (hdb : (x == ("__debug__" : Str)) = false := by decide) :
    XE X z Γ (.Call (.Name x p) (e :: es) [] pos) (tyO C ns Rf) (fun k => wr fun y => w y k) := fun G0 H0 σ G H k Q E hw hk => by
  obtain ⟨f, fd, ps, F, M, hm, hb⟩ := F
  refine ⟨_, pe_make M F hr hg hm hb .nil pass0 ra hdb hs hpl, ha G0 H0 σ G H _ _ E hw fun G1 H1 vs y W1 S1 r h1 => fun q dx nq nd ne => ?_⟩
  rw [List.append_nil]
  exact ⟨q, dx, vs, G1, H1, y, k, rfl, rfl, nq, nd, ne, W1.z0, r, h1, fun G' H' y W' S' r' q' => ⟨rfl, hk G' H' _ y (W1.after0 W' S') (S1.trans S'.lift) r' q'⟩⟩
end
end Zk
/-! TL5: targets, what is walked, new lists, statements, loops. -/
namespace Zk
open PySem PySem.Spec L2

theorem Stp.rebase {z : Zs} {G0 H0 G1 H1 G H : Hp} (a : Stp z G0 H0 G1 H1) (b : Stp z G1 H0 G H) : Stp z G0 H0 G H :=
  ⟨a.g.trans b.g, b.h, fun c o h e => b.n c o h (a.n c o h e), b.t⟩
theorem Stp.debase {z : Zs} {G0 H0 G1 H1 : Hp} (a : Stp z G0 H0 G1 H1) : Stp z G1 H0 G1 H1 :=
  ⟨Same.refl _, a.h, fun _ _ _ e => e, a.t⟩
theorem Ev.debase {z : Zs} {G0 H0 G H : Hp} {σ : L2.St} {Γ : List Sl} (E : Ev z G0 H0 G H σ Γ) : Ev z G H0 G H σ Γ := ⟨E.wd, E.base.debase, E.len, E.sl, E.ap⟩
theorem Ev.rebase {z : Zs} {G0 H0 G1 H1 G H : Hp} {σ : L2.St} {Γ : List Sl} (a : Stp z G0 H0 G1 H1) (E : Ev z G1 H0 G H σ Γ) : Ev z G0 H0 G H σ Γ := ⟨E.wd, a.rebase E.base, E.len, E.sl, E.ap⟩
theorem Meets.debase {z : Zs} {G0 H0 G1 H1 : Hp} {D : Ends} {ct : Ct} (a : Stp z G0 H0 G1 H1) (M : Meets z G0 H0 D ct) : Meets z G1 H0 D ct :=
  ⟨fun σ G H Γ E h => M.n σ G H Γ (E.rebase a) h, fun σ G H Γ E h => M.b σ G H Γ (E.rebase a) h, fun σ G H Γ E h => M.c σ G H Γ (E.rebase a) h, fun σ G H Γ v y E r q => M.r σ G H Γ v y (E.rebase a) r q⟩

/-! ### targets -/
def RG (X : Cx) (tg : Expr) : TG := fun v σ H Q => ∃ t, PG X tg t ∧ t v σ H Q
theorem rg {X : Cx} {tg : Expr} : PG X tg (RG X tg) := ⟨fun pins s σ H v u Q I r ⟨_, hp, h⟩ => hp.run pins s σ H v u Q I r h⟩
def RGs (X : Cx) (tgs : List Expr) : TGs := fun v σ H Q => ∃ t, PGs X tgs t ∧ t v σ H Q
theorem rgs {X : Cx} {tgs : List Expr} : PGs X tgs (RGs X tgs) := ⟨fun pins s σ H vs us Q I r ⟨_, hp, h⟩ => hp.run pins s σ H vs us Q I r h⟩
def XG (X : Cx) (z : Zs) (Γ : List Sl) (tg : Expr) {α : Type} (A : Ty α) (is : List Nat) (Γ' : α → List Sl) : Prop :=
  ∀ (G0 H0 : Hp) (σ : L2.St) (G H : Hp) (v : V) (x : α) (Q : L2.St → Hp → Prop), Ev z G0 H0 G H σ Γ → A.rep G v x → (∀ σ', Ev z G0 H0 G H σ' (Γ' x) → (σ'.length = σ.length ∧ ∀ j, j ∉ is → σ'[j]? = σ[j]?) → Q σ' H) → RG X tg v σ H Q
def XGs (X : Cx) (z : Zs) (Γ : List Sl) (tgs : List Expr) {ρ : Type} (R : Row ρ) (is : List Nat) (Γ' : ρ → List Sl) : Prop :=
  ∀ (G0 H0 : Hp) (σ : L2.St) (G H : Hp) (vs : List V) (x : ρ) (Q : L2.St → Hp → Prop), Ev z G0 H0 G H σ Γ → R.rep G vs x → (∀ σ', Ev z G0 H0 G H σ' (Γ' x) → (σ'.length = σ.length ∧ ∀ j, j ∉ is → σ'[j]? = σ[j]?) → Q σ' H) → RGs X tgs vs σ H Q
section
variable {X : Cx} {z : Zs} {Γ : List Sl} {a b c e tg : Expr} {tgs : List Expr} {α β ρ : Type} {A : Ty α} {B : Ty β} {R : Row ρ} {pos p : Pos}
theorem xg_name (i : Nat) {x : Str} (hN : X.N.Nodup) (hi : X.N[i]? = some x) (hx : Loc X.env.scope x) (hf : X.fn x = true ∨ X.env.scope.names.lookup x = some .local := by first | exact .inl rfl | exact .inr rfl) : XG X z Γ (.Name x pos) A [i] (fun y => Γ.set i (.fz A y)) :=
  fun G0 H0 σ G H v x Q E r hq => ⟨_, pg_name hN hi hx hf, hq _ (E.fz i r) ⟨List.length_set, fun j hj => List.getElem?_set_ne (fun q => hj (by rw [q]; exact List.mem_singleton.mpr rfl))⟩⟩
/-- a target whose value is not looked at again -/
theorem xg_drop (i : Nat) {x : Str} (hN : X.N.Nodup) (hi : X.N[i]? = some x) (hx : Loc X.env.scope x) (hf : X.fn x = true ∨ X.env.scope.names.lookup x = some .local := by first | exact .inl rfl | exact .inr rfl) : XG X z Γ (.Name x pos) A [i] (fun _ => Γ.set i .no) :=
  fun G0 H0 σ G H v x Q E r hq => ⟨_, pg_name hN hi hx hf, hq _ (E.set i trivial rfl) ⟨List.length_set, fun j hj => List.getElem?_set_ne (fun q => hj (by rw [q]; exact List.mem_singleton.mpr rfl))⟩⟩
theorem xgs_one {is : List Nat} {Γ' : α → List Sl} (h : XG X z Γ tg A is Γ') (hs : (assignEach (tg :: []) X.env).map (·.2) = assign tg X.env :: (assignEach [] X.env).map (·.2) := by rfl) : XGs X z Γ [tg] (Row.one A) is Γ' := fun G0 H0 σ G H vs x Q E ⟨v, ev, r⟩ hq =>
  ⟨_, pgs_cons rg pgs_nil hs, v, [], ev, h G0 H0 σ G H v x _ E r fun σ' E' q => ⟨rfl, hq σ' E' q⟩⟩
theorem xgs_cons {is js : List Nat} {Γ' : α → List Sl} {Γ2 : α → ρ → List Sl} (h : XG X z Γ tg A is Γ') (h2 : ∀ x, XGs X z (Γ' x) tgs R js (Γ2 x)) (hs : (assignEach (tg :: tgs) X.env).map (·.2) = assign tg X.env :: (assignEach tgs X.env).map (·.2) := by rfl) :
    XGs X z Γ (tg :: tgs) (Row.cons A R) (is ++ js) (fun x => Γ2 x.1 x.2) := fun G0 H0 σ G H vs x Q E ⟨v, r, ev, r1, r2⟩ hq =>
  ⟨_, pgs_cons rg rgs hs, v, r, ev, h G0 H0 σ G H v x.1 _ E r1 fun σ' E' q => h2 x.1 G0 H0 σ' G H r x.2 _ E' r2 fun σ2 E2 q2 => hq σ2 E2 ⟨q2.1.trans q.1, fun j hj =>
    (q2.2 j fun m => hj (List.mem_append_right _ m)).trans (q.2 j fun m => hj (List.mem_append_left _ m))⟩⟩
theorem xg_tup {is : List Nat} {Γ' : ρ → List Sl} {k : Nat} (hc : X.calm = true) (h : XGs X z Γ tgs R is Γ') (hn : (assignEach tgs X.env).length = R.n := by rfl) (hst : (assignEach tgs X.env).findIdx? (·.1) = none := by rfl) : XG X z Γ (.Tuple tgs k pos) (tyT R) is Γ' :=
  fun G0 H0 σ G H v x Q E ⟨q, vs, ev, hq, r⟩ hQ => ⟨_, pg_tup hc rgs hn hst, q, vs, ev, SqT.of (E.wd.lst hq (fun _ => by intro e; cases e)).r, R.len r, h G0 H0 σ G H vs x Q E r hQ⟩
end

/-! ### what is walked -/
def RI (X : Cx) (tg iter : Expr) : TI := fun σ H R => ∃ t, PI X tg iter t ∧ t σ H R
theorem ri {X : Cx} {tg iter : Expr} : PI X tg iter (RI X tg iter) := ⟨fun pins s σ H R I ⟨_, hp, h⟩ => hp.run pins s σ H R I h⟩
/-- the walk J gives the items xs, wherever what G holds is held -/
structure ItOk (z : Zs) (G : Hp) (J : It) {α : Type} (A : Ty α) (xs : List α) : Prop where
  go : ∀ (i : Nat) (x : α) (G2 H2 : Hp), Wd z G2 H2 → Same G G2 → xs[i]? = some x → J.go i H2
  yld : ∀ (i : Nat) (x : α) (G2 H2 : Hp) (v : V) (H3 : Hp), Wd z G2 H2 → Same G G2 → xs[i]? = some x → J.yld i H2 v H3 → ∃ G3, Wd z G3 H3 ∧ Stp z G2 H2 G3 H3 ∧ A.rep G3 v x
  stop : ∀ (G2 H2 : Hp), Wd z G2 H2 → Same G G2 → J.stop xs.length H2
def XI (X : Cx) (z : Zs) (Γ : List Sl) (tg e : Expr) {α : Type} (A : Ty α) (w : (List α → Prop) → Prop) : Prop :=
  ∀ (G0 H0 : Hp) (σ : L2.St) (G H : Hp) (k : List α → Prop) (R : It → Hp → Prop), Ev z G0 H0 G H σ Γ → w k → (∀ G' H' J xs, Wd z G' H' → Stp z G H G' H' → ItOk z G' J A xs → k xs → R J H') → RI X tg e σ H R
section
variable {X : Cx} {z : Zs} {Γ : List Sl} {a b c e tg : Expr} {es : List Expr} {α β γ ρ : Type} {A : Ty α} {B : Ty β} {R : Row ρ} {pos p : Pos} {wl : (List α → Prop) → Prop} {wl2 : (List β → Prop) → Prop} {wi wj : (Int → Prop) → Prop} {ws : (Str → Prop) → Prop}
theorem Wd.of {G H : Hp} (w : Wd z G H) {a : Addr} {u : HO} (h : G a = some u) (hu : ∀ kvs, u ≠ .dK kvs) : H a = some u := (w.lst h hu).r
theorem nodl {xs : List V} : ∀ kvs, HO.lst xs ≠ .dK kvs := fun _ => by intro e; cases e
theorem nodt {xs : List V} : ∀ kvs, HO.tup xs ≠ .dK kvs := fun _ => by intro e; cases e
theorem it_list {K : PySem.W.Frag} {G : Hp} {q : Addr} {vs : List V} {xs : List α} (hq : G q = some (.lst vs)) (r : Paired (A.rep G) vs xs) : ItOk z G (Itl K q) A xs where
  go := fun i x G2 H2 W s h => by
    obtain ⟨v, hv, _⟩ := Paired.at_ r h
    exact ⟨vs, v, SqL.of (W.of (s _ _ hq) nodl), hv⟩
  yld := fun i x G2 H2 v H3 W s h ⟨e, y⟩ => by
    obtain ⟨u, hu, ru⟩ := Paired.at_ r h
    have y' := y vs (SqL.of (W.of (s _ _ hq) nodl))
    rw [hu] at y'
    rw [e, ← Option.some.inj y']
    exact ⟨G2, W, Stp.refl _ _ _, A.mono s ru⟩
  stop := fun G2 H2 W s => ⟨vs, SqL.of (W.of (s _ _ hq) nodl), by rw [r.length]; exact Nat.le_refl _⟩
theorem it_tup {K : PySem.W.Frag} {G : Hp} {q : Addr} {vs : List V} {xs : List α} (hq : G q = some (.tup vs)) (r : Paired (A.rep G) vs xs) : ItOk z G (Itt K q) A xs where
  go := fun i x G2 H2 W s h => by
    obtain ⟨v, hv, _⟩ := Paired.at_ r h
    exact ⟨vs, v, SqT.of (W.of (s _ _ hq) nodt), hv⟩
  yld := fun i x G2 H2 v H3 W s h ⟨e, y⟩ => by
    obtain ⟨u, hu, ru⟩ := Paired.at_ r h
    have y' := y vs (SqT.of (W.of (s _ _ hq) nodt))
    rw [hu] at y'
    rw [e, ← Option.some.inj y']
    exact ⟨G2, W, Stp.refl _ _ _, A.mono s ru⟩
  stop := fun G2 H2 W s => ⟨vs, SqT.of (W.of (s _ _ hq) nodt), by rw [r.length]; exact Nat.le_refl _⟩
theorem xi_list (h : XE X z Γ e (tyL A) wl) : XI X z Γ tg e A wl := fun G0 H0 σ G H k R E hw hk =>
  ⟨_, pi_list re, h G0 H0 σ G H k _ E hw fun G1 H1 v xs W1 S1 ⟨q, vs, ev, hq, r⟩ h1 => ⟨q, ev, ⟨vs, SqL.of (W1.of hq nodl)⟩, hk G1 H1 _ xs W1 S1 (it_list hq r) h1⟩⟩
theorem xi_tup (h : XE X z Γ e (tyP A) wl) : XI X z Γ tg e A wl := fun G0 H0 σ G H k R E hw hk =>
  ⟨_, pi_tup re, h G0 H0 σ G H k _ E hw fun G1 H1 v xs W1 S1 ⟨q, vs, ev, hq, r⟩ h1 => ⟨q, ev, ⟨vs, SqT.of (W1.of hq nodt)⟩, hk G1 H1 _ xs W1 S1 (it_tup hq r) h1⟩⟩
/-- lo, lo + 1, .. -/
def rng (lo : Int) (n : Nat) : List Int := (List.range n).map fun (i : Nat) => lo + (i : Int)
theorem rng_at {lo : Int} {n i : Nat} {x : Int} (h : (rng lo n)[i]? = some x) : i < n ∧ x = lo + (i : Int) := by
  unfold rng at h
  rw [List.getElem?_map] at h
  by_cases hi : i < n
  · rw [List.getElem?_range hi] at h
    exact ⟨hi, (Option.some.inj h).symm⟩
  · rw [List.getElem?_eq_none (by rw [List.length_range]; omega)] at h
    cases h
theorem rng_length {lo : Int} {n : Nat} : (rng lo n).length = n := by unfold rng; rw [List.length_map, List.length_range]
theorem it_rng {G : Hp} {lo : Int} {n : Nat} : ItOk z G (Itr lo n) tyI (rng lo n) where
  go := fun i x G2 H2 W s h => (rng_at h).1
  yld := fun i x G2 H2 v H3 W s h ⟨e, y⟩ => by
    rw [e]
    exact ⟨G2, W, Stp.refl _ _ _, by rw [y, (rng_at h).2]; rfl⟩
  stop := fun G2 H2 W s => by rw [rng_length]; exact Nat.le_refl _
theorem xi_range (hm : X.mg "range" = none) (h : XE X z Γ a tyI wi) (hg : Gl X "range" := by rfl) (hs : starEach (a :: []) X.env = (false, eval a X.env) :: starEach [] X.env := by rfl) :
    XI X z Γ tg (.Call (.Name "range" p) [a] [] pos) tyI (fun k => wi fun n => (-(2 ^ 62) ≤ n ∧ n < 2 ^ 62) ∧ k (rng 0 n.toNat)) := fun G0 H0 σ G H k R E hw hk =>
  ⟨_, pi_range1 hg hm (pa_cons re pa_nil hs) hs, h G0 H0 σ G H _ _ E hw fun G1 H1 v n W1 S1 r ⟨hb, h1⟩ => ⟨n, by rw [show v = V.int n from r], hb.1, hb.2, hk G1 H1 _ _ W1 S1 it_rng h1⟩⟩
theorem xi_range2 (hm : X.mg "range" = none) (h : XE X z Γ a tyI wi) (h2 : XE X z Γ b tyI wj) (hg : Gl X "range" := by rfl) (hs : starEach (a :: [b]) X.env = (false, eval a X.env) :: starEach [b] X.env := by rfl) (hs2 : starEach (b :: []) X.env = (false, eval b X.env) :: starEach [] X.env := by rfl) :
    XI X z Γ tg (.Call (.Name "range" p) [a, b] [] pos) tyI (fun k => wi fun m => wj fun n => (-(2 ^ 62) ≤ m ∧ m < 2 ^ 62 ∧ -(2 ^ 62) ≤ n ∧ n < 2 ^ 62) ∧ k (rng m (n - m).toNat)) := fun G0 H0 σ G H k R E hw hk =>
  ⟨_, pi_range2 hg hm (pa_cons re (pa_cons re pa_nil hs2) hs) (hs.trans (by rw [hs2] <;> rfl)) (hs2.trans rfl), h G0 H0 σ G H _ _ E hw fun G1 H1 v m W1 S1 r h1 => h2 G0 H0 σ G1 H1 _ _ (E.step W1 S1) h1 fun G2 H2 u n W2 S2 r2 ⟨hb, h2⟩ =>
    ⟨m, n, by rw [show v = V.int m from r, show u = V.int n from r2], hb, hk G2 H2 _ _ W2 (S1.trans S2) it_rng h2⟩⟩
/-- a text's signs -/
def signs (s : Str) : List Str := s.cps.toList.map fun c => ⟨#[c]⟩
theorem it_str {G : Hp} {s : Str} (hs : sOk s = true) : ItOk z G (Its s) tyS (signs s) where
  go := fun i x G2 H2 W _ h => by
    have l := (List.getElem?_eq_some_iff.mp h).1
    unfold signs at l
    rw [List.length_map, Array.length_toList] at l
    exact l
  yld := fun i x G2 H2 v H3 W _ h ⟨e, c, y1, y2⟩ => by
    rw [e]
    refine ⟨G2, W, Stp.refl _ _ _, ?_⟩
    unfold signs at h
    rw [List.getElem?_map, Array.getElem?_toList, y1] at h
    rw [y2, ← Option.some.inj h]
    exact ⟨rfl, sok_one hs (by rw [← Array.getElem?_toList] at y1; exact List.mem_of_getElem? y1)⟩
  stop := fun G2 H2 W _ => by
    show s.cps.size ≤ _
    unfold signs
    rw [List.length_map, Array.length_toList]
    exact Nat.le_refl _
theorem xi_str (h : XE X z Γ e tyS ws) : XI X z Γ tg e tyS (fun k => ws fun s => k (signs s)) := fun G0 H0 σ G H k R E hw hk =>
  ⟨_, pi_str re, h G0 H0 σ G H _ _ E hw fun G1 H1 v s W1 S1 r h1 => ⟨s, r.1, hk G1 H1 _ _ W1 S1 (it_str r.2) h1⟩⟩

/-! ### new lists -/
def XF (X : Cx) (z : Zs) (Γ : List Sl) (e : Expr) {α : Type} (A : Ty α) (w : (List α → Prop) → Prop) : Prop :=
  ∀ (G0 H0 : Hp) (σ : L2.St) (G H : Hp) (k : List α → Prop) (Q : VK), Ev z G0 H0 G H σ Γ → w k →
    (∀ G' H' q vs xs, Wd z G' H' → Stp z G H G' H' → H q = none → G' q = none → H' q = some (.lst vs) → Paired (A.rep G') vs xs → k xs → Q (.ref q) H') → RE X e σ H Q
theorem Ev.nz {G0 H0 G H : Hp} {σ : L2.St} (E : Ev z G0 H0 G H σ Γ) {q : Addr} (hq : H q = none) : z.at_ ≠ some q := E.znew hq
theorem xe_f (h : XF X z Γ e A wl) : XE X z Γ e (tyL A) wl := fun G0 H0 σ G H k Q E hw hk =>
  h G0 H0 σ G H k Q E hw fun G1 H1 q vs xs W1 S1 nq gq hq r h1 =>
    hk (upd G1 q (.lst vs)) H1 _ xs (W1.frz hq gq (E.nz nq)) ⟨S1.g.trans (same_new gq), S1.h, fun a o ha ga => by
      rw [upd_ne (ne_of_none ha nq)]
      exact S1.n a o ha ga, S1.t⟩ ⟨q, vs, rfl, upd_same, Paired.mono (fun _ _ => A.mono (same_new gq)) r⟩ h1
theorem xl_f (h : XF X z Γ e A wl) : XL X z Γ e A wl := xl_of (xe_f h)
/-- from a new object that was made last -/
theorem xf_last {G H G1 H1 : Hp} {k : List α → Prop} {Q : VK} {vs : List V} {xs : List α} (W1 : Wd z G1 H1) (S1 : Stp z G H G1 H1) (r : Paired (A.rep G1) vs xs) (h1 : k xs)
    (hk : ∀ G' H' q vs xs, Wd z G' H' → Stp z G H G' H' → H q = none → G' q = none → H' q = some (.lst vs) → Paired (A.rep G') vs xs → k xs → Q (.ref q) H') : ∀ q, H1 q = none → Q (.ref q) (upd H1 q (.lst vs)) := fun q nq =>
  hk G1 _ q vs xs (W1.own nq) (S1.trans (Stp.own nq)) (by
    cases e : H q with
    | none => rfl
    | some o =>
      obtain ⟨o', e'⟩ := S1.t q o e
      rw [nq] at e'
      cases e') (W1.gh.free nq) upd_same r h1
variable {Rl : Row (List α)}
theorem xf_lst [Alike A Rl] (h : XA X z Γ es Rl wl) (hn : Rl.n ≤ sizeLine := by show _ ≤ _; decide) : XF X z Γ (.List es pos) A wl := fun G0 H0 σ G H k Q E hw hk =>
  ⟨_, pe_lst ra, h G0 H0 σ G H _ _ E hw fun G1 H1 vs x W1 S1 r1 h1 => ⟨by rw [Rl.len r1]; exact hn, xf_last W1 S1 (Alike.to r1) h1 hk⟩⟩
theorem xf_nil : XF X z Γ (.List [] pos) A (fun k => k []) := fun G0 H0 σ G H k Q E hw hk => ⟨_, pe_lst pa_nil, ⟨Nat.zero_le _, xf_last E.wd (Stp.refl _ _ _) .nil hw hk⟩⟩
theorem xf_slL {lo hi : Option Expr} {wlo whi : (Option Int → Prop) → Prop} {p2 : Pos} (h : XL X z Γ a A wl) (h1 : XO X z Γ lo wlo) (h2 : XO X z Γ hi whi) : XF X z Γ (.Subscript a (.Slice lo hi none p2) pos) A (fun k => wl fun xs => wlo fun l => whi fun u => k (cutA xs l u)) := fun G0 H0 σ G H k Q E hw hk =>
  ⟨_, pe_slice sl_list re ro ro, h G0 H0 σ G H _ _ E hw fun G1 H1 q vs xs W1 S1 sq r g1 => h1.ro (E.step W1 S1) g1 fun G2 H2 l W2 S2 g2 => h2.ro (E.step W2 (S1.trans S2)) g2 fun G3 H3 u W3 S3 g3 =>
    ⟨q, vs, rfl, SqL.of ((sq.step S2).step S3).r, xf_last W3 ((S1.trans S2).trans S3) (Paired.mono (fun _ _ => A.mono (S2.g.trans S3.g)) (Paired.cut r l u)) g3 hk⟩⟩
theorem xf_cat {wl2 : (List α → Prop) → Prop} (h : XL X z Γ a A wl) (h2 : XL X z Γ b A wl2) : XF X z Γ (.BinOp a .Add b pos) A (fun k => wl fun xs => wl2 fun ys => xs.length + ys.length ≤ sizeLine ∧ k (xs ++ ys)) := fun G0 H0 σ G H k Q E hw hk =>
  ⟨_, pe_op op_cat re re, h G0 H0 σ G H _ _ E hw fun G1 H1 q vs xs W1 S1 sq r g1 => h2 G0 H0 σ G1 H1 _ _ (E.step W1 S1) g1 fun G2 H2 q2 vs2 ys W2 S2 sq2 r2 ⟨hl, g2⟩ =>
    ⟨q, q2, vs, vs2, rfl, rfl, (sq.step S2).r, sq2.r, by rw [r.length, r2.length]; exact hl, xf_last W2 (S1.trans S2) (Paired.app (Paired.mono (fun _ _ => A.mono S2.g) r) r2) g2 hk⟩⟩
theorem xf_listL (hm : X.mg "list" = none) (h : XL X z Γ a A wl) (hg : Gl X "list" := by rfl) (hs : starEach (a :: []) X.env = (false, eval a X.env) :: starEach [] X.env := by rfl) : XF X z Γ (.Call (.Name "list" p) [a] [] pos) A wl := fun G0 H0 σ G H k Q E hw hk =>
  ⟨_, pe_callTy call_list_of hg hm (by decide +kernel) (pa_cons re pa_nil hs) (by decide) (by decide) hs rfl, h G0 H0 σ G H _ _ E hw fun G1 H1 q vs xs W1 S1 sq r h1 => ⟨q, vs, rfl, .inl (SqL.of sq.r), xf_last W1 S1 r h1 hk⟩⟩
theorem xf_listP (hm : X.mg "list" = none) (h : XE X z Γ a (tyP A) wl) (hg : Gl X "list" := by rfl) (hs : starEach (a :: []) X.env = (false, eval a X.env) :: starEach [] X.env := by rfl) : XF X z Γ (.Call (.Name "list" p) [a] [] pos) A wl := fun G0 H0 σ G H k Q E hw hk =>
  ⟨_, pe_callTy call_list_of hg hm (by decide +kernel) (pa_cons re pa_nil hs) (by decide) (by decide) hs rfl, h G0 H0 σ G H _ _ E hw fun G1 H1 v xs W1 S1 ⟨q, vs, ev, hq, r⟩ h1 => ⟨q, vs, by rw [ev], .inr (SqT.of (W1.of hq nodt)), xf_last W1 S1 r h1 hk⟩⟩
theorem xe_tupleL (hm : X.mg "tuple" = none) (h : XL X z Γ a A wl) (hg : Gl X "tuple" := by rfl) (hs : starEach (a :: []) X.env = (false, eval a X.env) :: starEach [] X.env := by rfl) : XE X z Γ (.Call (.Name "tuple" p) [a] [] pos) (tyP A) wl := fun G0 H0 σ G H k Q E hw hk =>
  ⟨_, pe_callTy call_tuple_of hg hm (by decide +kernel) (pa_cons re pa_nil hs) (by decide) (by decide) hs rfl, h G0 H0 σ G H _ _ E hw fun G1 H1 q vs xs W1 S1 sq r h1 => ⟨q, vs, rfl, .inl ⟨SqL.of sq.r, fun l nl =>
    hk _ _ _ xs (W1.new nl) (S1.trans (Stp.new W1.gh nl)) ⟨l, vs, rfl, upd_same, Paired.mono (fun _ _ => A.mono (same_new (W1.gh.free nl))) r⟩ h1⟩⟩⟩
theorem xe_sum (hc : X.calm = true) (hm : X.mg "sum" = none) {wn : (List Int → Prop) → Prop} (h : XL X z Γ a tyI wn) (hg : Gl X "sum" := by rfl) (hs : starEach (a :: []) X.env = (false, eval a X.env) :: starEach [] X.env := by rfl) : XE X z Γ (.Call (.Name "sum" p) [a] [] pos) tyI (fun k => wn fun xs => k xs.sum) := fun G0 H0 σ G H k Q E hw hk =>
  ⟨_, pe_callB (cr_sum hc) hg hm (by decide +kernel) (pa_cons re pa_nil hs) (by decide) (by decide) hs rfl, h G0 H0 σ G H _ _ E hw fun G1 H1 q vs xs W1 S1 sq r h1 => ⟨q, xs, rfl, by rw [← paired_ints r]; exact SqL.of sq.r, hk G1 H1 _ _ W1 S1 rfl h1⟩⟩
end
end Zk
/-! TL6: statements, loops, comprehensions. -/
namespace Zk
open PySem PySem.Spec L2
section
variable {X : Cx} {z : Zs} {Γ Γ1 : List Sl} {ct : Ct} {a b c e o tg iter : Expr} {rest body orelse : List Stmt} {α β τ : Type} {A : Ty α} {B : Ty β} {pos p p' p2 : Pos} {x m : Str} {w : Prop}
  {wa : (α → Prop) → Prop} {wl : (List α → Prop) → Prop} {wi : (Int → Prop) → Prop} {ws : (Str → Prop) → Prop} {wc : (Bool → Prop) → Prop}

theorem xb_imp {w' : Prop} (f : w → w') (h : XB X z ct Γ rest w') : XB X z ct Γ rest w := fun G0 H0 D σ G H M E hw => h G0 H0 D σ G H M E (f hw)
theorem xb_by {w' : Prop} (h : XB X z ct Γ rest w') (f : w → w') : XB X z ct Γ rest w := xb_imp f h
theorem xb_nil : XB X z ct Γ [] (ct.n Γ) := fun G0 H0 D σ G H M E hw => ⟨_, pss_nil, M.n σ G H Γ E hw⟩
theorem xb_cv (h : Cv Γ Γ1) (hr : XB X z ct Γ1 rest w) : XB X z ct Γ rest w := fun G0 H0 D σ G H M E hw => by
  obtain ⟨G1, s, E1⟩ := h z G0 H0 G H σ E
  exact hr G0 H0 D σ G1 H M E1 hw
/-- the end of a branch: into the common shape -/
theorem xb_join {ΓJ : τ → List Sl} {wj : τ → Prop} (s : τ) (h : Cv Γ (ΓJ s)) (hn : ct.n = J ΓJ wj) : XB X z ct Γ [] (wj s) := fun G0 H0 D σ G H M E hw => by
  obtain ⟨G1, sg, E1⟩ := h z G0 H0 G H σ E
  exact ⟨_, pss_nil, M.n σ G1 H _ E1 (by rw [hn]; exact ⟨s, rfl, hw⟩)⟩
theorem xb_pass (hr : XB X z ct Γ rest w) : XB X z ct Γ (.Pass pos :: rest) w := fun G0 H0 D σ G H M E hw => ⟨_, pss_cons ps_pass rs, hr G0 H0 D σ G H M E hw⟩
theorem xb_doc {j} (hr : XB X z ct Γ rest w) : XB X z ct Γ (.Expr (.Constant (.str x) j p) pos :: rest) w := fun G0 H0 D σ G H M E hw => ⟨_, pss_cons ps_doc rs, hr G0 H0 D σ G H M E hw⟩
theorem xb_break {ΓJ : τ → List Sl} {wj : τ → Prop} (s : τ) (h : Cv Γ (ΓJ s)) (hn : ct.b = J ΓJ wj) : XB X z ct Γ (.Break pos :: rest) (wj s) := fun G0 H0 D σ G H M E hw => by
  obtain ⟨G1, sg, E1⟩ := h z G0 H0 G H σ E
  exact ⟨_, pss_cons ps_break rs, M.b σ G1 H _ E1 (by rw [hn]; exact ⟨s, rfl, hw⟩)⟩
theorem xb_continue {ΓJ : τ → List Sl} {wj : τ → Prop} (s : τ) (h : Cv Γ (ΓJ s)) (hn : ct.c = J ΓJ wj) : XB X z ct Γ (.Continue pos :: rest) (wj s) := fun G0 H0 D σ G H M E hw => by
  obtain ⟨G1, sg, E1⟩ := h z G0 H0 G H σ E
  exact ⟨_, pss_cons ps_continue rs, M.c σ G1 H _ E1 (by rw [hn]; exact ⟨s, rfl, hw⟩)⟩
/-- a statement that is never come to -/
theorem xb_never {st : Stmt} : XB X z ct Γ (st :: rest) False := fun G0 H0 D σ G H M E hw => hw.elim
/-- name = e -/
theorem xb_set (i : Nat) {wk : α → Prop} (hN : X.N.Nodup) (hi : X.N[i]? = some x) (hx : Loc X.env.scope x) (he : XE X z Γ e A wa) (hn : ∀ y, XB X z ct (Γ.set i (.fz A y)) rest (wk y))
    (hs : swapsWith e (some (.Name x p')) pos.line X.env = pure false := by rfl) (hf : X.fn x = true ∨ X.env.scope.names.lookup x = some .local := by first | exact .inl rfl | exact .inr rfl) :
    XB X z ct Γ (.Assign [.Name x p'] e pos :: rest) (wa wk) := fun G0 H0 D σ G H M E hw =>
  ⟨_, pss_cons (ps_set hN hi hx re hs hf) rs, he G0 H0 σ G H wk _ E hw fun G1 H1 v y W1 S1 r h1 => hn y G0 H0 D _ G1 H1 M ((E.step W1 S1).fz i r) h1⟩
theorem SlOk.ml_of {G0 H0 G H G1 H1 : Hp} {σ : L2.St} (E : Ev z G0 H0 G H σ Γ) {q : Addr} {vs : List V} {xs : List α} (nq : H q = none) (gq : G1 q = none) (hq : H1 q = some (.lst vs)) (r : Paired (A.rep G1) vs xs) : SlOk z H0 G1 H1 (some (.ref q)) (.ml A xs) :=
  ⟨q, vs, rfl, ⟨gq, E.znew nq, E.h0new nq, hq⟩, r⟩
theorem Ev.takeOwn {G0 H0 G H G1 H1 : Hp} {σ : L2.St} (E : Ev z G0 H0 G H σ Γ) (W1 : Wd z G1 H1) (S1 : Stp z G H G1 H1) (i : Nat) {q : Addr} (nq : H q = none) {S : Sl} (hS : SlOk z H0 G1 H1 (some (.ref q)) S) (ha : S.adr = true := by rfl) : Ev z G0 H0 G1 H1 (σ.set i (some (.ref q))) (Γ.set i S) :=
  (E.step W1 S1).setOwn i hS fun j T o' l hj h1 h2 h3 h4 => by
    have e := fp_adr h3 ha
    subst e
    obtain ⟨u, o⟩ := (E.sl j T _ h1 h2).tracked h4
    have oh := o.h
    rw [nq] at oh
    cases oh
/-- name = a new list that stays one's own -/
theorem xb_setF (i : Nat) {wk : List α → Prop} (hN : X.N.Nodup) (hi : X.N[i]? = some x) (hx : Loc X.env.scope x) (he : XF X z Γ e A wl) (hn : ∀ y, XB X z ct (Γ.set i (.ml A y)) rest (wk y))
    (hs : swapsWith e (some (.Name x p')) pos.line X.env = pure false := by rfl) (hf : X.fn x = true ∨ X.env.scope.names.lookup x = some .local := by first | exact .inl rfl | exact .inr rfl) :
    XB X z ct Γ (.Assign [.Name x p'] e pos :: rest) (wl wk) := fun G0 H0 D σ G H M E hw =>
  ⟨_, pss_cons (ps_set hN hi hx re hs hf) rs, he G0 H0 σ G H wk _ E hw fun G1 H1 q vs xs W1 S1 nq gq hq r h1 => hn xs G0 H0 D _ G1 H1 M (E.takeOwn W1 S1 i nq (SlOk.ml_of E nq gq hq r)) h1⟩
/-- name = {} -/
theorem xb_newD (i : Nat) (A : Ty α) (hN : X.N.Nodup) (hi : X.N[i]? = some x) (hx : Loc X.env.scope x) (hn : XB X z ct (Γ.set i (.md A [])) rest w)
    (hs : swapsWith (.Dict [] [] p) (some (.Name x p')) pos.line X.env = pure false := by rfl) (hf : X.fn x = true ∨ X.env.scope.names.lookup x = some .local := by first | exact .inl rfl | exact .inr rfl) :
    XB X z ct Γ (.Assign [.Name x p'] (.Dict [] [] p) pos :: rest) w := fun G0 H0 D σ G H M E hw =>
  ⟨_, pss_cons (ps_set hN hi hx pe_dnewK hs hf) rs, fun q nq => hn G0 H0 D _ G _ M (E.takeOwn (E.wd.own nq) (Stp.own nq) i nq ⟨q, [], rfl, E.ownNew nq, .nil⟩) hw⟩
/-- name.append(e) -/
theorem xb_app (i : Nat) {xs : List α} {wk : α → Prop} {apos cpos : Pos} (hΓ : Γ[i]? = some (.ml A xs)) (hN : X.N[i]? = some x) (hv : Vis X.env.scope x) (he : XE X z Γ e A wa) (hn : ∀ y, XB X z ct (Γ.set i (.ml A (xs ++ [y]))) rest (wk y))
    (hs : starEach (e :: []) X.env = (false, eval e X.env) :: starEach [] X.env := by rfl)
    (hbase : attributeBase (.Name x p) "append" X.env (eval (.Name x p) X.env) = eval (.Name x p) X.env := by rfl)
    (hfew : ((backTo cpos (starEach (e :: []) X.env)).all (fun x => !x.1) && (backToKw cpos (keywordEach [] X.env)).all (fun x => x.1.isSome)
      && decide ((e :: []).length + ([] : List Keyword).length + (if ([] : List Keyword).isEmpty then 0 else 1) < 30)) = true := by rfl)
    (hline : (apos.endLine == cpos.line) = true := by rfl) (hsw : swapsWith (.Call (.Attribute (.Name x p) "append" apos) [e] [] cpos) none pos.line X.env = pure false := by rfl)
    (hd : (x == ("__debug__" : Str)) = false := by decide) (hcd : (x == ("__classdict__" : Str)) = false := by decide) :
    XB X z ct Γ (.Expr (.Call (.Attribute (.Name x p) "append" apos) [e] [] cpos) pos :: rest) (wa fun y => xs.length < sizeLine ∧ wk y) := fun G0 H0 D σ G H M E hw => by
  obtain ⟨ov, eo, l, vs, rfl, r, q⟩ := E.at_ hΓ
  refine ⟨_, pss_cons (ps_expr (pe_bm PySem.F.plainAttrs_list PySem.F.slot_list_append PySem.F.type_list_append mt_append (pe_var hN hv hd hcd) (pa_cons re pa_nil hs) hbase hfew hline hs rfl) hsw) rs, ?_⟩
  refine ⟨_, eo, .inl ⟨rfl, vs, SqL.of r.h⟩, he G0 H0 σ G H _ _ E hw fun G1 H1 v y W1 S1 ry ⟨hl, h1⟩ => ?_⟩
  have r1 := r.step S1
  refine ⟨l, vs, v, rfl, rfl, r1.h, by rw [q.length]; exact hl, ?_⟩
  exact hn y G0 H0 D σ G1 _ M ((E.step W1 S1).mut hΓ eo rfl r1 ⟨l, _, rfl, ⟨r1.g, r1.z, r1.h0, upd_same⟩, Paired.app (Paired.mono (fun _ _ => A.mono S1.g) q) (.cons ry .nil)⟩) h1
theorem Paired.set {F : V → β → Prop} : ∀ {l : List V} {m : List β} {v : V} {y : β} (n : Nat), Paired F l m → F v y → Paired F (l.set n v) (m.set n y)
  | _, _, _, _, _, .nil, _ => .nil
  | _, _, _, _, 0, .cons _ t, h => .cons h t
  | _, _, _, _, n + 1, .cons r t, h => .cons r (Paired.set n t h)
/-- name[b] = e -/
theorem xb_setL (i : Nat) {xs : List α} {wk : List α → Prop} (hΓ : Γ[i]? = some (.ml A xs)) (hN : X.N[i]? = some x) (hv : Vis X.env.scope x) (he : XE X z Γ e A wa) (hb : XE X z Γ b tyI wi) (hn : ∀ ys, XB X z ct (Γ.set i (.ml A ys)) rest (wk ys))
    (hs : swapsWithSole [.Subscript (.Name x p) b p2] e pos.line X.env = pure false := by rfl) (hw2 : swappedStores [.Subscript (.Name x p) b p2] e X.env = pure none := by rfl)
    (h1 : (assignEach [.Subscript (.Name x p) b p2] X.env).map (·.2) = [assign (.Subscript (.Name x p) b p2) X.env] := by rfl)
    (ha : ∀ v, assign (.Subscript (.Name x p) b p2) X.env v = (do
      let ov ← holding [v] (eval (.Name x p) X.env)
      let iv ← holding [v, ov] (eval b X.env)
      standAt p2
      holding [v, ov, iv] (setItem ov iv v)
      release [v, ov, iv] []) := by intro _; rfl) (hd : (x == ("__debug__" : Str)) = false := by decide) (hcd : (x == ("__classdict__" : Str)) = false := by decide) :
    XB X z ct Γ (.Assign [.Subscript (.Name x p) b p2] e pos :: rest) (wa fun y => wi fun j => ∃ n, ixN xs.length j = some n ∧ wk (xs.set n y)) := fun G0 H0 D σ G H M E hw => by
  obtain ⟨ov, eo, l, vs, rfl, r, q⟩ := E.at_ hΓ
  refine ⟨_, pss_cons (ps_asg re (pg_sub (pe_var hN hv hd hcd) re set_list ha) hs hw2 h1) rs, ?_⟩
  refine he G0 H0 σ G H _ _ E hw fun G1 H1 v y W1 S1 ry g1 => ?_
  refine ⟨_, eo, hb G0 H0 σ G1 H1 _ _ (E.step W1 S1) g1 fun G2 H2 u j W2 S2 rj ⟨n, en, g2⟩ => ?_⟩
  have r1 := r.step (S1.trans S2)
  refine ⟨l, vs, j, n, rfl, rj, r1.h, by rw [q.length]; exact en, ?_⟩
  exact hn _ G0 H0 D σ G2 _ M ((E.step W2 (S1.trans S2)).mut hΓ eo rfl r1 ⟨l, _, rfl, ⟨r1.g, r1.z, r1.h0, upd_same⟩, Paired.set n (Paired.mono (fun _ _ => A.mono (S1.g.trans S2.g)) q) (A.mono S2.g ry)⟩) g2
/-- d[s] = y -/
def put {α : Type} (d : List (Str × α)) (s : Str) (y : α) : List (Str × α) :=
  if (d.any fun kv => decide (kv.1 = s)) = true then d.map (fun kv => if kv.1 = s then (kv.1, y) else kv) else d ++ [(s, y)]
theorem kv_any {G : Hp} (s : Str) : ∀ {ks : List (Key × V)} {d : List (Str × α)}, Paired (kvR A G) ks d → (ks.any fun kv => decide (kv.1 = .inr s)) = d.any fun kv => decide (kv.1 = s)
  | _, _, .nil => rfl
  | _, _, .cons (a := k) (b := d) r t => by
    rw [List.any_cons, List.any_cons, kv_any s t, r.1.1]
    by_cases h : d.1 = s
    · rw [decide_eq_true h, decide_eq_true (by rw [h])]
    · rw [decide_eq_false h, decide_eq_false fun e => h (by injection e)]
theorem kv_map {G : Hp} (s : Str) {v : V} {y : α} (hv : A.rep G v y) : ∀ {ks : List (Key × V)} {d : List (Str × α)}, Paired (kvR A G) ks d → Paired (kvR A G) (ks.map fun kv => if kv.1 = .inr s then (kv.1, v) else kv) (d.map fun kv => if kv.1 = s then (kv.1, y) else kv)
  | _, _, .nil => .nil
  | _, _, .cons (a := k) (b := d) r t => by
    rw [List.map_cons, List.map_cons]
    refine .cons ?_ (kv_map s hv t)
    by_cases h : d.1 = s
    · rw [if_pos h, if_pos (by rw [r.1.1, h])]
      exact ⟨r.1, hv⟩
    · rw [if_neg h, if_neg fun e => h (by rw [r.1.1] at e; injection e)]
      exact r
theorem kv_put {G : Hp} (s : Str) (hs : sOk s = true) {v : V} {y : α} (hv : A.rep G v y) {ks : List (Key × V)} {d : List (Str × α)} (r : Paired (kvR A G) ks d) : Paired (kvR A G) (putK ks (.inr s) v) (put d s y) := by
  unfold putK put
  rw [kv_any s r]
  by_cases h : (d.any fun kv => decide (kv.1 = s)) = true
  · rw [if_pos h, if_pos h]
    exact kv_map s hv r
  · rw [if_neg h, if_neg h]
    exact Paired.app r (.cons ⟨⟨rfl, hs⟩, hv⟩ .nil)
theorem xb_put (i : Nat) {d : List (Str × α)} {wk : List (Str × α) → Prop} (hu : X.A.units + 1 < cLine) (hΓ : Γ[i]? = some (.md A d)) (hN : X.N[i]? = some x) (hv : Vis X.env.scope x) (he : XE X z Γ e A wa) (hb : XE X z Γ b tyS ws) (hn : ∀ ys, XB X z ct (Γ.set i (.md A ys)) rest (wk ys))
    (hs : swapsWith e (some (.Subscript (.Name x p) b p2)) pos.line X.env = pure false := by rfl) (hd : (x == ("__debug__" : Str)) = false := by decide) (hcd : (x == ("__classdict__" : Str)) = false := by decide) :
    XB X z ct Γ (.Assign [.Subscript (.Name x p) b p2] e pos :: rest) (wa fun y => ws fun s => d.length < sizeLine ∧ wk (put d s y)) := fun G0 H0 D σ G H M E hw => by
  obtain ⟨ov, eo, l, ks, rfl, r, q⟩ := E.at_ hΓ
  refine ⟨_, pss_cons (ps_dput hu (pe_var hN hv hd hcd) re re hs) rs, ?_⟩
  refine he G0 H0 σ G H _ _ E hw fun G1 H1 v y W1 S1 ry g1 => ?_
  refine ⟨_, eo, hb G0 H0 σ G1 H1 _ _ (E.step W1 S1) g1 fun G2 H2 u s W2 S2 rs' ⟨hl, g2⟩ => ?_⟩
  have r1 := r.step (S1.trans S2)
  refine ⟨l, _, rfl, by rw [show u = V.str s from rs'.1]; exact .inl ⟨ks, .inr s, r1.h, rfl, by rw [q.length]; exact hl, rfl⟩, ?_⟩
  exact hn _ G0 H0 D σ G2 _ M ((E.step W2 (S1.trans S2)).mut hΓ eo rfl r1 ⟨l, _, rfl, ⟨r1.g, r1.z, r1.h0, upd_same⟩, kv_put s rs'.2 (A.mono S2.g ry) (Paired.mono (fun _ _ z => ⟨z.1, A.mono (S1.g.trans S2.g) z.2⟩) q)⟩) g2
/-- an expression whose value is dropped -/
theorem xb_expr {wk : Prop} (he : XE X z Γ e A wa) (hn : XB X z ct Γ rest wk) (hs : swapsWith e none pos.line X.env = pure false := by rfl) : XB X z ct Γ (.Expr e pos :: rest) (wa fun _ => wk) := fun G0 H0 D σ G H M E hw =>
  ⟨_, pss_cons (ps_expr re hs) rs, he G0 H0 σ G H _ _ E hw fun G1 H1 v y W1 S1 r h1 => hn G0 H0 D σ G1 H1 M (E.step W1 S1) h1⟩
theorem xb_ret {wb : (ct.β → Prop) → Prop} (he : XE X z Γ e ct.B wb) : XB X z ct Γ (.Return (some e) pos :: rest) (wb (ct.r Γ)) := fun G0 H0 D σ G H M E hw =>
  ⟨_, pss_cons (ps_ret re) rs, he G0 H0 σ G H _ _ E hw fun G1 H1 v y W1 S1 r h1 => M.r σ G1 H1 Γ v y (E.step W1 S1) r h1⟩
/-- if, both ways into a common shape -/
theorem xb_if (ΓJ : τ → List Sl) (wj : τ → Prop) {w1 w2 : Prop} (hc : XT X z Γ c wc) (h1 : XB X z { ct with n := J ΓJ wj } Γ body w1) (h2 : XB X z { ct with n := J ΓJ wj } Γ orelse w2) (hr : ∀ s, XB X z ct (ΓJ s) rest (wj s)) :
    XB X z ct Γ (.If c body orelse pos :: rest) (wc fun b => if b = true then w1 else w2) := fun G0 H0 D σ G H M E hw => by
  have M' : Meets z G0 H0 { D with nx := RS X rest D } { ct with n := J ΓJ wj } := ⟨fun σ' G' H' Γ' E' ⟨s, e, q⟩ => by subst e; exact hr s G0 H0 D σ' G' H' M E' q, M.b, M.c, M.r⟩
  refine ⟨_, pss_cons (ps_if rt rs rs) rs, hc G0 H0 σ G H _ _ E hw fun G1 H1 b W1 S1 g1 => ?_⟩
  cases b with
  | true => exact h1 G0 H0 _ σ G1 H1 M' (E.step W1 S1) g1
  | false => exact h2 G0 H0 _ σ G1 H1 M' (E.step W1 S1) g1
/-- if whose first way never comes out of its end, without else -/
theorem xb_if1 {w1 w2 : Prop} (hc : XT X z Γ c wc) (h1 : XB X z { ct with n := fun _ => False } Γ body w1) (hr : XB X z ct Γ rest w2) : XB X z ct Γ (.If c body [] pos :: rest) (wc fun b => if b = true then w1 else w2) := fun G0 H0 D σ G H M E hw => by
  have M' : Meets z G0 H0 { D with nx := RS X rest D } { ct with n := fun _ => False } := ⟨fun _ _ _ _ _ q => q.elim, M.b, M.c, M.r⟩
  refine ⟨_, pss_cons (ps_if rt rs rs) rs, hc G0 H0 σ G H _ _ E hw fun G1 H1 b W1 S1 g1 => ?_⟩
  cases b with
  | true => exact h1 G0 H0 _ σ G1 H1 M' (E.step W1 S1) g1
  | false => exact ⟨_, pss_nil, hr G0 H0 D σ G1 H1 M (E.step W1 S1) g1⟩
/-- if, neither way comes out of its end -/
theorem xb_if2 {w1 w2 : Prop} (hc : XT X z Γ c wc) (h1 : XB X z { ct with n := fun _ => False } Γ body w1) (h2 : XB X z { ct with n := fun _ => False } Γ orelse w2) : XB X z ct Γ (.If c body orelse pos :: rest) (wc fun b => if b = true then w1 else w2) := fun G0 H0 D σ G H M E hw => by
  have M' : Meets z G0 H0 { D with nx := RS X rest D } { ct with n := fun _ => False } := ⟨fun _ _ _ _ _ q => q.elim, M.b, M.c, M.r⟩
  refine ⟨_, pss_cons (ps_if rt rs rs) rs, hc G0 H0 σ G H _ _ E hw fun G1 H1 b W1 S1 g1 => ?_⟩
  cases b with
  | true => exact h1 G0 H0 _ σ G1 H1 M' (E.step W1 S1) g1
  | false => exact h2 G0 H0 _ σ G1 H1 M' (E.step W1 S1) g1

/-! ### loops -/
/-- for: by an invariant over the turn and what is carried -/
def WFor (xs : List α) (s0 : τ) (wb : (τ → Prop) → τ → α → Prop) (wk : τ → Prop) : Prop :=
  ∃ I : Nat → τ → Prop, I 0 s0 ∧ (∀ i x s, xs[i]? = some x → I i s → wb (I (i + 1)) s x) ∧ ∀ s, I xs.length s → wk s
theorem xb_for {is : List Nat} {ΓT : τ → α → List Sl} {wb : (τ → Prop) → τ → α → Prop} {wk : τ → Prop} (ΓL : τ → List Sl) (s0 : τ) (hp : PassesOwn (model X.prog X.w) X.A X.env X.xe) (hc : X.calm = true) (hi : XI X z Γ tg iter A wl) (cv : Cv Γ (ΓL s0))
    (hg : ∀ s, XG X z (ΓL s) tg A is (ΓT s))
    (hb : ∀ (nx : τ → Prop) s x, XB X z { ct with n := J ΓL nx, c := J ΓL nx, b := J ΓL wk } (ΓT s x) body (wb nx s x)) (hr : ∀ s, XB X z ct (ΓL s) rest (wk s))
    (hs : ∀ x, foldedSetIterable iter X.env x = pure x := by intro _; rfl) : XB X z ct Γ (.For tg iter body [] pos :: rest) (wl fun xs => WFor xs s0 wb wk) := fun G0 H0 D σ G H M E hw => by
  refine ⟨_, pss_cons (ps_for hp hc ri rg rs hs) rs, hi G0 H0 σ G H _ _ E hw fun G1 H1 J' xs W1 S1 ok ⟨I, i0, it, ie⟩ => ?_⟩
  obtain ⟨G2, sg, E2⟩ := cv z G0 H0 G1 H1 σ (E.step W1 S1)
  refine ⟨fun i m σ' H' => ∃ G' s, i ≤ xs.length ∧ m = xs.length - i ∧ Ev z G0 H0 G' H' σ' (ΓL s) ∧ Same G2 G' ∧ I i s, ⟨_, G2, s0, Nat.zero_le _, rfl, E2, Same.refl _, i0⟩, ?_⟩
  rintro i m σ' H' ⟨G', s, hi, rfl, E', sm, q⟩
  have bs := E'.base
  have hn : ∀ {G0' : Hp}, Stp z G0 H0 G0' H' → ∀ σ3 G3 H3 Γ3, Ev z G0' H0 G3 H3 σ3 Γ3 → J ΓL wk Γ3 → RS X rest D σ3 H3 := fun {G0'} st σ3 G3 H3 Γ3 E3 ⟨s3, e3, q3⟩ => by
    subst e3
    exact hr s3 G0 H0 D σ3 G3 H3 M (E3.rebase st) q3
  by_cases hlt : i < xs.length
  · refine .inr ⟨ok.go i xs[i] G' H' E'.wd (sg.trans sm) (by simp [hlt]), fun σ3 H3 => ∃ G3 s3, Ev z G0 H0 G3 H3 σ3 (ΓL s3) ∧ Same G2 G3 ∧ I (i + 1) s3, fun σ3 H3 ⟨G3, s3, E3, sm3, q3⟩ => ⟨xs.length - (i + 1), by omega, G3, s3, hlt, rfl, E3, sm3, q3⟩, fun v H3 y => ?_⟩
    obtain ⟨G3, W3, S3, r3⟩ := ok.yld i xs[i] G' H' v H3 E'.wd (sg.trans sm) (by simp [hlt]) y
    refine hg s G0 H0 σ' G3 H3 v xs[i] _ (E'.step W3 S3) r3 fun σ4 E4 _ => ?_
    have st : Stp z G0 H0 G3 H3 := bs.trans S3
    have M' : Meets z G3 H0 { D with nx := fun σ3 H3 => ∃ G3 s3, Ev z G0 H0 G3 H3 σ3 (ΓL s3) ∧ Same G2 G3 ∧ I (i + 1) s3, ct := fun σ3 H3 => ∃ G3 s3, Ev z G0 H0 G3 H3 σ3 (ΓL s3) ∧ Same G2 G3 ∧ I (i + 1) s3, bk := RS X rest D } { ct with n := J ΓL (I (i + 1)), c := J ΓL (I (i + 1)), b := J ΓL wk } :=
      ⟨fun σ5 G5 H5 Γ5 E5 ⟨s5, e5, q5⟩ => by subst e5; exact ⟨G5, s5, E5.rebase st, sm.trans (S3.g.trans E5.base.g), q5⟩,
       fun σ5 G5 H5 Γ5 E5 q5 => by
        obtain ⟨s5, e5, q5⟩ := q5
        subst e5
        exact hr s5 G0 H0 D σ5 G5 H5 M (E5.rebase st) q5,
       fun σ5 G5 H5 Γ5 E5 ⟨s5, e5, q5⟩ => by subst e5; exact ⟨G5, s5, E5.rebase st, sm.trans (S3.g.trans E5.base.g), q5⟩,
       fun σ5 G5 H5 Γ5 v5 y5 E5 r5 q5 => M.r σ5 G5 H5 Γ5 v5 y5 (E5.rebase st) r5 q5⟩
    exact hb (I (i + 1)) s xs[i] G3 H0 _ σ4 G3 H3 M' E4.debase (it i xs[i] s (by simp [hlt]) q)
  · have e : i = xs.length := by omega
    subst e
    exact .inl ⟨ok.stop G' H' E'.wd (sg.trans sm), hr s G0 H0 D σ' G' H' M E' (ie s q)⟩
/-- while: by an invariant and a measure -/
def WWhile (s0 : τ) (wc : τ → (Bool → Prop) → Prop) (wb : (τ → Prop) → τ → Prop) (wk : τ → Prop) : Prop :=
  ∃ (I : τ → Prop) (μ : τ → Nat), I s0 ∧ ∀ s, I s → wc s fun b => if b = true then wb (fun s' => I s' ∧ μ s' < μ s) s else wk s
theorem xb_while {wb : (τ → Prop) → τ → Prop} {wk : τ → Prop} {wct : τ → (Bool → Prop) → Prop} (ΓL : τ → List Sl) (s0 : τ) (hp : PassesOwn (model X.prog X.w) X.A X.env X.xe) (cv : Cv Γ (ΓL s0)) (hc : ∀ s, XT X z (ΓL s) c (wct s))
    (hb : ∀ (nx : τ → Prop) s, XB X z { ct with n := J ΓL nx, c := J ΓL nx, b := J ΓL wk } (ΓL s) body (wb nx s)) (hr : ∀ s, XB X z ct (ΓL s) rest (wk s)) :
    XB X z ct Γ (.While c body [] pos :: rest) (WWhile s0 wct wb wk) := fun G0 H0 D σ G H M E ⟨I, μ, i0, it⟩ => by
  obtain ⟨G2, sg, E2⟩ := cv z G0 H0 G H σ E
  refine ⟨_, pss_cons (ps_while hp rt rs) rs, fun m σ' H' => ∃ G' s, m = μ s ∧ Ev z G0 H0 G' H' σ' (ΓL s) ∧ I s, ⟨_, G2, s0, rfl, E2, i0⟩, ?_⟩
  rintro m σ' H' ⟨G', s, rfl, E', q⟩
  refine hc s G0 H0 σ' G' H' _ _ E' (it s q) fun G3 H3 b W3 S3 g3 => ?_
  cases b with
  | true =>
    refine ⟨fun σ4 H4 => ∃ G4 s4, Ev z G0 H0 G4 H4 σ4 (ΓL s4) ∧ I s4 ∧ μ s4 < μ s, fun σ4 H4 ⟨G4, s4, E4, q4, l4⟩ => ⟨μ s4, l4, G4, s4, rfl, E4, q4⟩, ?_⟩
    have M' : Meets z G0 H0 { D with nx := fun σ4 H4 => ∃ G4 s4, Ev z G0 H0 G4 H4 σ4 (ΓL s4) ∧ I s4 ∧ μ s4 < μ s, ct := fun σ4 H4 => ∃ G4 s4, Ev z G0 H0 G4 H4 σ4 (ΓL s4) ∧ I s4 ∧ μ s4 < μ s, bk := RS X rest D } { ct with n := J ΓL (fun s' => I s' ∧ μ s' < μ s), c := J ΓL (fun s' => I s' ∧ μ s' < μ s), b := J ΓL wk } :=
      ⟨fun σ5 G5 H5 Γ5 E5 ⟨s5, e5, q5⟩ => by subst e5; exact ⟨G5, s5, E5, q5⟩,
       fun σ5 G5 H5 Γ5 E5 ⟨s5, e5, q5⟩ => by subst e5; exact hr s5 G0 H0 D σ5 G5 H5 M E5 q5,
       fun σ5 G5 H5 Γ5 E5 ⟨s5, e5, q5⟩ => by subst e5; exact ⟨G5, s5, E5, q5⟩,
       M.r⟩
    exact hb _ s G0 H0 _ σ' G3 H3 M' (E'.step W3 S3) g3
  | false => exact hr s G0 H0 D σ' G3 H3 M (E'.step W3 S3) g3

/-! ### comprehensions -/
def wipeG (Γ : List Sl) : List Nat → List Sl
  | [] => Γ
  | v :: vs => (wipeG Γ vs).set v .no
theorem Ev.wipe1 {G0 H0 G H : Hp} {σ : L2.St} (E : Ev z G0 H0 G H σ Γ) (i : Nat) : Ev z G0 H0 G H (σ.set i none) (Γ.set i .no) :=
  E.setOwn i trivial fun _ _ _ _ _ _ _ h _ => h.elim
theorem Ev.wipe {G0 H0 G H : Hp} {σ : L2.St} (E : Ev z G0 H0 G H σ Γ) : ∀ vs : List Nat, Ev z G0 H0 G H (L2.wipe σ vs) (wipeG Γ vs)
  | [] => E
  | v :: vs => (Ev.wipe E vs).wipe1 v
theorem wipe_at {σ : L2.St} {j : Nat} : ∀ {vs : List Nat}, (j ∉ vs → (L2.wipe σ vs)[j]? = σ[j]?) ∧ (j ∈ vs → j < σ.length → (L2.wipe σ vs)[j]? = some none)
  | [] => ⟨fun _ => rfl, fun h => absurd h (by simp)⟩
  | v :: vs => by
    obtain ⟨h1, h2⟩ := wipe_at (σ := σ) (j := j) (vs := vs)
    have hl : (L2.wipe σ vs).length = σ.length := wipe_length σ vs
    refine ⟨fun h => ?_, fun h hj => ?_⟩
    · show ((L2.wipe σ vs).set v none)[j]? = _
      rw [List.getElem?_set_ne fun e => h (List.mem_cons.mpr (.inl e.symm))]
      exact h1 fun q => h (List.mem_cons_of_mem _ q)
    · show ((L2.wipe σ vs).set v none)[j]? = _
      by_cases e : v = j
      · subst e
        rw [List.getElem?_set_self (by rw [hl]; exact hj)]
      · rw [List.getElem?_set_ne e]
        exact h2 ((List.mem_cons.mp h).resolve_left fun q => e q.symm) hj
theorem wipe_eq {σ σ' : L2.St} {vs is : List Nat} (hs : ∀ i ∈ is, i ∈ vs) (h : σ'.length = σ.length ∧ ∀ j, j ∉ is → σ'[j]? = σ[j]?) : L2.wipe σ' vs = L2.wipe σ vs := by
  apply List.ext_getElem?
  intro j
  by_cases hj : j ∈ vs
  · by_cases hl : j < σ.length
    · rw [wipe_at.2 hj hl, wipe_at.2 hj (by rw [h.1]; exact hl)]
    · rw [List.getElem?_eq_none (by rw [wipe_length, h.1]; omega), List.getElem?_eq_none (by rw [wipe_length]; omega)]
  · rw [wipe_at.1 hj, wipe_at.1 hj]
    exact h.2 j fun q => hj (hs j q)
theorem wipe_wipe {σ : L2.St} {vs : List Nat} : L2.wipe (L2.wipe σ vs) vs = L2.wipe σ vs := by
  apply List.ext_getElem?
  intro j
  by_cases hj : j ∈ vs
  · by_cases hl : j < σ.length
    · rw [wipe_at.2 hj hl, wipe_at.2 hj (by rw [wipe_length]; exact hl)]
    · rw [List.getElem?_eq_none (by rw [wipe_length, wipe_length]; omega), List.getElem?_eq_none (by rw [wipe_length]; omega)]
  · rw [wipe_at.1 hj]
/-- the comprehension's list: by an invariant, or (below) by maps -/
def WLc (xs : List α) (wt : α → (Bool → Prop) → Prop) (we : α → (β → Prop) → Prop) (wk : List β → Prop) : Prop :=
  xs.length < sizeLine ∧ ∃ I : Nat → List β → Prop, I 0 [] ∧ (∀ i x acc, xs[i]? = some x → I i acc → wt x fun b => if b = true then we x fun y => I (i + 1) (acc ++ [y]) else I (i + 1) acc) ∧ ∀ acc, I xs.length acc → wk acc
/-- a clause's tests -/
def XTs (X : Cx) (z : Zs) (Γ : List Sl) (ifs : List Expr) (w : (Bool → Prop) → Prop) : Prop :=
  ∀ (G0 H0 : Hp) (σ : L2.St) (G H : Hp) (k : Bool → Prop) (Q : Bool → Hp → Prop), Ev z G0 H0 G H σ Γ → w k → (∀ G' H' b, Wd z G' H' → Stp z G H G' H' → k b → Q b H') → ∃ t, PTs X ifs t ∧ t σ H Q
theorem xts_nil : XTs X z Γ [] (fun k => k true) := fun G0 H0 σ G H k Q E hw hk => ⟨_, pts_nil, hk G H true E.wd (Stp.refl _ _ _) hw⟩
theorem xts_one (h : XT X z Γ c wc) : XTs X z Γ [c] wc := fun G0 H0 σ G H k Q E hw hk => ⟨_, pts_one rt, h G0 H0 σ G H k Q E hw hk⟩
theorem Stp.app {G H G' H' : Hp} {q : Addr} {o u : HO} (S : Stp z G (upd H q o) G' H') (gq : G q = none) (nq : H q = none) : Stp z G H G' (upd H' q u) := by
  have ne : ∀ {a : Addr} {w : HO}, H a = some w → a ≠ q := fun h => ne_of_none h nq
  refine ⟨S.g, fun a w hz h => ?_, fun a w h g => ?_, fun a w h => ?_⟩
  · rw [upd_ne (ne h)]
    exact S.h a w hz (by rw [upd_ne (ne h)]; exact h)
  · exact S.n a w (by rw [upd_ne (ne h)]; exact h) g
  · obtain ⟨o', e⟩ := S.t a w (by rw [upd_ne (ne h)]; exact h)
    exact ⟨o', by rw [upd_ne (ne h)]; exact e⟩
section
variable {elt : Expr} {ifs : List Expr} {scope : Scope} {own : List (Str × Nat)} {is : List Nat} {ΓT : α → List Sl} {wt : α → (Bool → Prop) → Prop} {we : α → (β → Prop) → Prop}
end
end
end Zk
/-! TL7: a def's body keeps its promise. -/
namespace Zk
open PySem PySem.Spec L2

/-- a row as slots -/
structure RowSl {ρ : Type} (R : Row ρ) (f : ρ → List Sl) : Prop where
  len : ∀ x, (f x).length = R.n
  sl : ∀ (z : Zs) (H0 G H : Hp) (vs : List V) (x : ρ) (i : Nat) (S : Sl) (o : Option V), R.rep G vs x → (f x)[i]? = some S → (vs.map some)[i]? = some o → SlOk z H0 G H o S
  own : ∀ x (i : Nat) (S : Sl), (f x)[i]? = some S → S.own = false
theorem rsl_nil : RowSl Row.nil (fun _ => []) := ⟨fun _ => rfl, fun _ _ _ _ _ _ _ _ _ _ h _ => by simp at h, fun _ _ _ h => by simp at h⟩
theorem rsl_one {α : Type} {A : Ty α} : RowSl (Row.one A) (fun x => [.fz A x]) := ⟨fun _ => rfl, fun z H0 G H vs x i S o ⟨v, e, r⟩ h1 h2 => by
  subst e
  cases i with
  | zero =>
    have e1 := Option.some.inj h1
    have e2 : some v = o := Option.some.inj h2
    subst e1
    exact ⟨v, e2.symm, r⟩
  | succ i => simp at h1, fun x i S h => by
  cases i with
  | zero => rw [← Option.some.inj h]; rfl
  | succ i => simp at h⟩
theorem rsl_cons {α ρ : Type} {A : Ty α} {R : Row ρ} {f : ρ → List Sl} (q : RowSl R f) : RowSl (Row.cons A R) (fun x => .fz A x.1 :: f x.2) := ⟨fun x => by
  show (f x.2).length + 1 = R.n + 1
  rw [q.len], fun z H0 G H vs x i S o ⟨v, r, e, h, t⟩ h1 h2 => by
  subst e
  cases i with
  | zero =>
    have e1 := Option.some.inj h1
    have e2 : some v = o := Option.some.inj h2
    subst e1
    exact ⟨v, e2.symm, h⟩
  | succ i => exact q.sl z H0 G H r x.2 i S o t h1 h2, fun x i S h => by
  cases i with
  | zero => rw [← Option.some.inj h]; rfl
  | succ i => exact q.own x.2 i S h⟩
theorem start_at {N : List Str} {vs : List V} {i : Nat} {o : Option V} (h : (L2.start N vs)[i]? = some o) : (i < vs.length ∧ (vs.map some)[i]? = some o) ∨ (vs.length ≤ i ∧ o = none) := by
  unfold L2.start at h
  by_cases hi : i < vs.length
  · rw [List.getElem?_append_left (by simpa using hi)] at h
    exact .inl ⟨hi, h⟩
  · rw [List.getElem?_append_right (by simpa using hi), List.getElem?_replicate] at h
    split at h
    · exact .inr ⟨by omega, (Option.some.inj h).symm⟩
    · cases h
theorem pad_at {L : List Sl} {n i : Nat} {S : Sl} (h : (L ++ List.replicate n Sl.no)[i]? = some S) : L[i]? = some S ∨ S = .no := by
  by_cases hi : i < L.length
  · rw [List.getElem?_append_left hi] at h
    exact .inl h
  · rw [List.getElem?_append_right (by omega), List.getElem?_replicate] at h
    split at h
    · exact .inr (Option.some.inj h).symm
    · cases h
/-- the slots at a def's entry -/
theorem ev_start {ρ : Type} {R : Row ρ} {f : ρ → List Sl} {z : Zs} {G H : Hp} {vs : List V} {x : ρ} {N : List Str} (q : RowSl R f) (W : Wd z G H) (r : R.rep G vs x) (hN : R.n ≤ N.length) : Ev z G H G H (L2.start N vs) (f x ++ List.replicate (N.length - R.n) .no) := by
  have hl := R.len r
  refine ⟨W, Stp.refl _ _ _, ?_, fun i S o h1 h2 => ?_, fun i j S T o1 o2 l hij h1 h2 _ _ h3 h4 => ?_⟩
  · unfold L2.start
    rw [List.length_append, List.length_map, List.length_replicate, List.length_append, List.length_replicate, q.len, hl]
  · rcases pad_at h1 with h1 | e
    · rcases start_at h2 with ⟨_, h2⟩ | ⟨h2, _⟩
      · exact q.sl z H G H vs x i S o r h1 h2
      · have := (List.getElem?_eq_some_iff.mp h1).1
        rw [q.len] at this
        omega
    · subst e; trivial
  · rcases pad_at h1 with h1 | e
    · exact fp_own h3 (q.own x i S h1)
    · subst e; exact h3
theorem ev_startS {ρ : Type} {R : Row ρ} {f : ρ → List Sl} {z : Zs} {G H : Hp} {s : Addr} {vs : List V} {x : ρ} {N : List Str} (hz : z.at_ = some s) (q : RowSl R f) (W : Wd z G H) (r : R.rep G vs x) (hN : R.n + 1 ≤ N.length) :
    Ev z G H G H (L2.start N (.ref s :: vs)) (.st :: (f x ++ List.replicate (N.length - (R.n + 1)) .no)) := by
  have hl := R.len r
  have e1 : L2.start N (.ref s :: vs) = some (.ref s) :: (vs.map some ++ List.replicate (N.length - (vs.length + 1)) none) := rfl
  rw [e1]
  have at_ : ∀ {i : Nat} {o : Option V}, (vs.map some ++ List.replicate (N.length - (vs.length + 1)) none)[i]? = some o → (i < vs.length ∧ (vs.map some)[i]? = some o) ∨ vs.length ≤ i := fun {i o} h => by
    by_cases hi : i < vs.length
    · rw [List.getElem?_append_left (by simpa using hi)] at h
      exact .inl ⟨hi, h⟩
    · exact .inr (by omega)
  refine ⟨W, Stp.refl _ _ _, ?_, fun i S o h1 h2 => ?_, fun i j S T o1 o2 l hij h1 h2 h5 h6 h3 h4 => ?_⟩
  · rw [List.length_cons, List.length_cons, List.length_append, List.length_map, List.length_replicate, List.length_append, List.length_replicate, q.len, hl]
  · cases i with
    | zero =>
      have e1 := Option.some.inj h1
      have e2 := Option.some.inj h2
      subst e1
      exact ⟨s, hz, e2.symm⟩
    | succ i =>
      rcases pad_at (i := i) h1 with h1 | e
      · rcases at_ (i := i) h2 with ⟨_, h2⟩ | h2
        · exact q.sl z H G H vs x i S o r h1 h2
        · have := (List.getElem?_eq_some_iff.mp h1).1
          rw [q.len] at this
          omega
      · subst e; trivial
  · cases i with
    | zero => rw [← Option.some.inj h1] at h3; exact h3
    | succ i =>
      rcases pad_at (i := i) h1 with h1 | e
      · exact fp_own h3 (q.own x i S h1)
      · subst e; exact h3

section
variable {P : Program} {w : World} {K : PySem.W.Frag} {mg : Str → Option Value} {base : Heap} {ρ β φ : Type} {R : Row ρ} {B : Ty β} {Rf : Row φ} {x qual : Str} {params : Arguments} {body : List Stmt} {scope : Scope} {f : Addr} {fd : FuncData} {N ps : List Str} {n : Nat} {C : Addr} {m : Str}
  {fsl : ρ → List Sl} {wf : ρ → (β → Prop) → Prop}
abbrev BindOk (x : Str) (params : Arguments) (body : List Stmt) (scope : Scope) (ps : List Str) : Prop := ∀ (kV doc pm : Value) (an : Option Addr) (cdv ct : Value) (us : List Value), us.length = ps.length → bindArgs (PySem.W.fnOf x qual params body scope .none kV doc pm an cdv ct) ⟨us, []⟩ = pure (ps.zip us)
/-- what a body must show, for a def that leaves the state alone -/
def BodyP (P : Program) (w : World) (K : PySem.W.Frag) (mg : Str → Option Value) (base : Heap) (N : List Str) (qual : Str) (scope : Scope) (body : List Stmt) (f : Addr) (n : Nat) (B : Ty β) (kn : (β → Prop) → Prop) (Γ0 : ρ → List Sl) (wf : ρ → (β → Prop) → Prop) : Prop :=
  ∀ (cdv : Value) (A : Around) (outer : List Env) (s : Shared) (H : Hp) (E : XK), Room n (A.deeper (PyProof.Rows.envOfC qual scope s.heap.objs.size f cdv)) → ∀ (y : ρ) (k : β → Prop), XB (cxOf CX0 P w K mg base N qual scope f cdv A outer s H E).nox Z0 { n := fun _ => kn k, B := B, r := fun _ => k } (Γ0 y) body (wf y k)
theorem fn_P {Γ0 : ρ → List Sl} {kn : (β → Prop) → Prop} (F : FunD K x qual params body scope [] [] f fd) (S : FnScope N ps scope) (hn : R.n = ps.length) (hN : R.n ≤ N.length) (q : RowSl R fsl) (hΓ : ∀ y, Γ0 y = fsl y ++ List.replicate (N.length - R.n) .no)
    (hkn : ∀ k G, kn k → ∃ y, B.rep G .non y ∧ k y) (hB : BodyP P w K mg base N qual scope body f n B kn Γ0 wf) : FnOk P w K mg base CX0 (n + 1) f fd ps (spP R B wf) := by
  refine F.ok S (fun vs H Q E h => ?_) (fun cdv A outer s H vs Q E hr h => ?_)
  · obtain ⟨G, y, k, _, r, _⟩ := h
    rw [R.len r, hn]
  · obtain ⟨G, y, k, W, r, hw, hk⟩ := h
    refine ⟨_, PSs.nox rs, hB cdv A outer s H E hr y k G H _ _ G H ⟨fun σ G' H' Γ E' z => ?_, fun _ _ _ _ _ z => z.elim, fun _ _ _ _ _ z => z.elim, fun _ G' H' _ v y' E' r' z => hk G' H' v y' E'.wd E'.base r' z⟩ (by rw [hΓ]; exact ev_start q W r hN) hw⟩
    obtain ⟨y', r', k'⟩ := hkn k G' z
    exact hk G' H' .non y' E'.wd E'.base r' k'
def BodyS (P : Program) (w : World) (K : PySem.W.Frag) (mg : Str → Option Value) (base : Heap) (N : List Str) (qual : Str) (scope : Scope) (body : List Stmt) (f : Addr) (n : Nat) (mm : Zm) (B : Ty β) (kn : (β → Prop) → Prop) (Γ0 : ρ → List Sl) (wf : ρ → (β → Prop) → Prop) : Prop :=
  ∀ (cdv : Value) (A : Around) (outer : List Env) (s : Shared) (H : Hp) (E : XK), Room n (A.deeper (PyProof.Rows.envOfC qual scope s.heap.objs.size f cdv)) → ∀ (st : Addr) (y : ρ) (k : β → Prop), XB (cxOf CX0 P w K mg base N qual scope f cdv A outer s H E).nox (mm.at_ st) { n := fun _ => kn k, B := B, r := fun _ => k } (Γ0 y) body (wf y k)
theorem fn_S {mm : Zm} {Γ0 : ρ → List Sl} {kn : (β → Prop) → Prop} (F : FunD K x qual params body scope [] [] f fd) (S : FnScope N ps scope) (hn : R.n + 1 = ps.length) (hN : R.n + 1 ≤ N.length) (q : RowSl R fsl) (hΓ : ∀ y, Γ0 y = .st :: (fsl y ++ List.replicate (N.length - (R.n + 1)) .no))
    (hkn : ∀ k G, kn k → ∃ y, B.rep G .non y ∧ k y) (hB : BodyS P w K mg base N qual scope body f n mm B kn Γ0 wf) : FnOk P w K mg base CX0 (n + 1) f fd ps (spS mm R B wf) := by
  refine F.ok S (fun vs H Q E h => ?_) (fun cdv A outer s H vs Q E hr h => ?_)
  · obtain ⟨s, rs', G, y, k, e, _, r, _⟩ := h
    rw [e, List.length_cons, R.len r, hn]
  · obtain ⟨st, rs', G, y, k, e, W, r, hw, hk⟩ := h
    subst e
    refine ⟨_, PSs.nox rs, hB cdv A outer s H E hr st y k G H _ _ G H ⟨fun σ G' H' Γ E' z => ?_, fun _ _ _ _ _ z => z.elim, fun _ _ _ _ _ z => z.elim, fun _ G' H' _ v y' E' r' z => hk G' H' v y' E'.wd E'.base r' z⟩ (by rw [hΓ]; exact ev_startS rfl q W r hN) hw⟩
    obtain ⟨y', r', k'⟩ := hkn k G' z
    exact hk G' H' .non y' E'.wd E'.base r' k'
theorem cle_P {Γ0 : ρ → List Sl} {kn : (β → Prop) → Prop} (F : FunD K x x params body scope [] [] f fd) (hm : mg x = some (.ref f)) (S : FnScope N ps scope) (hb : BindOk (qual := x) x params body scope ps) (hn : R.n = ps.length) (hN : R.n ≤ N.length) (q : RowSl R fsl) (hΓ : ∀ y, Γ0 y = fsl y ++ List.replicate (N.length - R.n) .no)
    (hkn : ∀ k G, kn k → ∃ y, B.rep G .non y ∧ k y) (hB : BodyP P w K mg base N x scope body f n B kn Γ0 wf) : Cle P w K mg base x (n + 1) (spP R B wf) :=
  ⟨f, fd, ps, fn_P F S hn hN q hΓ hkn hB, hm, F.kp, F.bindsN hb⟩
theorem cle_S {mm : Zm} {Γ0 : ρ → List Sl} {kn : (β → Prop) → Prop} (F : FunD K x x params body scope [] [] f fd) (hm : mg x = some (.ref f)) (S : FnScope N ps scope) (hb : BindOk (qual := x) x params body scope ps) (hn : R.n + 1 = ps.length) (hN : R.n + 1 ≤ N.length) (q : RowSl R fsl) (hΓ : ∀ y, Γ0 y = .st :: (fsl y ++ List.replicate (N.length - (R.n + 1)) .no))
    (hkn : ∀ k G, kn k → ∃ y, B.rep G .non y ∧ k y) (hB : BodyS P w K mg base N x scope body f n mm B kn Γ0 wf) : Cle P w K mg base x (n + 1) (spS mm R B wf) :=
  ⟨f, fd, ps, fn_S F S hn hN q hΓ hkn hB, hm, F.kp, F.bindsN hb⟩
theorem cle_M {Γ0 : ρ → List Sl} {kn : (β → Prop) → Prop} (F : FunD K m qual params body scope [] [] f fd) (hm : Meth K C m f) (S : FnScope N ps scope) (hb : BindOk (qual := qual) m params body scope ps) (hn : R.n = ps.length) (hN : R.n ≤ N.length) (q : RowSl R fsl) (hΓ : ∀ y, Γ0 y = fsl y ++ List.replicate (N.length - R.n) .no)
    (hkn : ∀ k G, kn k → ∃ y, B.rep G .non y ∧ k y) (hB : BodyP P w K mg base N qual scope body f n B kn Γ0 wf) : CleM P w K mg base C m (n + 1) (spP R B wf) :=
  ⟨f, fd, ps, fn_P F S hn hN q hΓ hkn hB, hm, F.bindsN hb⟩
/-- __init__: slot 0 is the new instance -/
def BodyI (P : Program) (w : World) (K : PySem.W.Frag) (mg : Str → Option Value) (base : Heap) (N : List Str) (qual : Str) (scope : Scope) (body : List Stmt) (f : Addr) (n : Nat) (C : Addr) (ns : List Str) (Rf : Row φ) (Γ0 : Addr → ρ → List Sl) (wf : ρ → (φ → Prop) → Prop) : Prop :=
  ∀ (cdv : Value) (A : Around) (outer : List Env) (s : Shared) (H : Hp) (E : XK), Room n (A.deeper (PyProof.Rows.envOfC qual scope s.heap.objs.size f cdv)) → ∀ (p : Addr) (y : ρ) (k : φ → Prop),
    XB (cxOf CX0 P w K mg base N qual scope f cdv A outer s H E).nox Z0 { n := fun Γ => ∃ (fs : List (Str × Fz)) (z : φ), Γ[0]? = some (.ob p C fs) ∧ fs.map (·.1) = ns ∧ (∀ G vs, FV G vs fs → Rf.rep G vs z) ∧ k z, B := tyU, r := fun _ _ => False } (Γ0 p y) body (wf y k)
theorem ev_startI {f : ρ → List Sl} {z : Zs} {G Hb : Hp} {p dx : Addr} {vs : List V} {x : ρ} {N : List Str} (q : RowSl R f) (W : Wd z G Hb) (np : Hb p = none) (nd : Hb dx = none) (ne : dx ≠ p) (r : R.rep G vs x) (hN : R.n + 1 ≤ N.length) :
    Ev z G Hb G (upd (upd Hb dx (.own p)) p (.ins C dx [])) (L2.start N (.ref p :: vs)) (.ob p C [] :: (f x ++ List.replicate (N.length - (R.n + 1)) .no)) := by
  have hl := R.len r
  have np1 : (upd Hb dx (.own p)) p = none := by rw [upd_ne (Ne.symm ne)]; exact np
  have e1 : L2.start N (.ref p :: vs) = some (.ref p) :: (vs.map some ++ List.replicate (N.length - (vs.length + 1)) none) := rfl
  rw [e1]
  have at_ : ∀ {i : Nat} {o : Option V}, (vs.map some ++ List.replicate (N.length - (vs.length + 1)) none)[i]? = some o → (i < vs.length ∧ (vs.map some)[i]? = some o) ∨ vs.length ≤ i := fun {i o} h => by
    by_cases hi : i < vs.length
    · rw [List.getElem?_append_left (by simpa using hi)] at h
      exact .inl ⟨hi, h⟩
    · exact .inr (by omega)
  have W1 := (W.own (o := .own p) nd).own (o := .ins C dx []) np1
  have S1 : Stp z G Hb G (upd (upd Hb dx (.own p)) p (.ins C dx [])) := (Stp.own nd).trans (Stp.own np1)
  refine ⟨W1, S1, ?_, fun i S o h1 h2 => ?_, fun i j S T o1 o2 l hij h1 h2 h5 h6 h3 h4 => ?_⟩
  · rw [List.length_cons, List.length_cons, List.length_append, List.length_map, List.length_replicate, List.length_append, List.length_replicate, q.len, hl]
  · cases i with
    | zero =>
      have e1 := Option.some.inj h1
      have e2 := Option.some.inj h2
      subst e1
      refine ⟨dx, [], e2.symm, ⟨W.gh.free np, fun e => ?_, np, upd_same⟩, .nil⟩
      obtain ⟨_, o', e', _⟩ := W.zk p e
      rw [np] at e'
      cases e'
    | succ i =>
      rcases pad_at (i := i) h1 with h1 | e
      · rcases at_ (i := i) h2 with ⟨_, h2⟩ | h2
        · exact q.sl z Hb G _ vs x i S o r h1 h2
        · have := (List.getElem?_eq_some_iff.mp h1).1
          rw [q.len] at this
          omega
      · subst e; trivial
  · have own0 : ∀ {i : Nat} {S : Sl} {o l}, (Sl.ob p C [] :: (f x ++ List.replicate (N.length - (R.n + 1)) .no))[i]? = some S → S.fp o l → i = 0 := fun {i S o l} h h' => by
      cases i with
      | zero => rfl
      | succ i =>
        rcases pad_at (i := i) h with h | e
        · exact (fp_own h' (q.own x i S h)).elim
        · subst e; exact h'.elim
    exact hij ((own0 h1 h3).trans (own0 h2 h4).symm)
theorem cle_I {ns : List Str} {Γ0 : Addr → ρ → List Sl} {wf : ρ → (φ → Prop) → Prop} (F : FunD K "__init__" qual params body scope [] [] f fd) (M : Mk K C f) (hm : mg x = some (.ref C)) (S : FnScope N ps scope) (hb : BindOk (qual := qual) "__init__" params body scope ps) (hn : R.n + 1 = ps.length) (hN : R.n + 1 ≤ N.length) (q : RowSl R fsl)
    (hΓ : ∀ p y, Γ0 p y = .ob p C [] :: (fsl y ++ List.replicate (N.length - (R.n + 1)) .no)) (hB : BodyI P w K mg base N qual scope body f n C ns Rf Γ0 wf) : CleI P w K mg base x C (n + 1) (spI C ns R Rf wf) := by
  refine ⟨f, fd, ps, F.ok S (fun vs H Q E h => ?_) (fun cdv A outer s H vs Q E hr h => ?_), M, hm, F.bindsN hb⟩
  · obtain ⟨p, dx, rs', G, Hb, y, k, e, _, _, _, _, _, r, _⟩ := h
    rw [e, List.length_cons, R.len r, hn]
  · obtain ⟨p, dx, rs', G, Hb, y, k, e, eH, np, nd, ne, W, r, hw, hk⟩ := h
    subst e eH
    refine ⟨_, PSs.nox rs, hB cdv A outer s _ E hr p y k G Hb _ _ G _ ⟨fun σ G' H' Γ E' ⟨fs, z, h0, hns, hR, kz⟩ => ?_, fun _ _ _ _ _ z => z.elim, fun _ _ _ _ _ z => z.elim, fun _ _ _ _ _ _ _ _ z => z.elim⟩ (by rw [hΓ]; exact ev_startI q W np nd ne r hN) hw⟩
    obtain ⟨o, eo, dx', vs', rfl, r', q'⟩ := E'.at_ h0
    have sg : Same G' (upd G' p (.ins C dx' vs')) := same_new r'.g
    have E2 := E'.freeze (S' := .no) h0 eo rfl r' rfl trivial
    obtain ⟨e1, e2⟩ := fz_split (FR.mono sg q')
    rw [hns] at e1
    exact hk _ H' z E2.wd E2.base ⟨p, dx', vs'.map (·.2), rfl, by rw [← e1]; exact upd_same, hR _ _ e2⟩ kz
end
end Zk
/-! TL8: one's own list of mixed items; the law's state from within. -/
namespace Zk
open PySem PySem.Spec L2
/-- the j-th of a row replaced -/
def RowPut {ρ α : Type} (R : Row ρ) (j : Nat) (A : Ty α) (g : ρ → α → ρ) : Prop := ∀ G vs x v y, R.rep G vs x → A.rep G v y → R.rep G (vs.set j v) (g x y) ∧ j < vs.length
theorem rp_one {α : Type} {A : Ty α} : RowPut (Row.one A) 0 A (fun _ y => y) := fun _ _ _ v _ ⟨u, e, _⟩ h => by subst e; exact ⟨⟨v, rfl, h⟩, Nat.succ_pos _⟩
theorem rp_zero {α ρ : Type} {A : Ty α} {R : Row ρ} : RowPut (Row.cons A R) 0 A (fun x y => (y, x.2)) := fun _ _ _ v _ ⟨u, r, e, _, q⟩ h => by subst e; exact ⟨⟨v, r, rfl, h, q⟩, Nat.succ_pos _⟩
theorem rp_succ {α β ρ : Type} {A : Ty α} {B : Ty β} {R : Row ρ} {j : Nat} {g : ρ → α → ρ} (h : RowPut R j A g) : RowPut (Row.cons B R) (j + 1) A (fun x y => (x.1, g x.2 y)) := fun G _ _ v y ⟨u, r, e, q, t⟩ hv => by
  subst e
  obtain ⟨h1, h2⟩ := h G r _ v y t hv
  exact ⟨⟨u, r.set j v, rfl, q, h1⟩, Nat.succ_lt_succ h2⟩
section
variable {X : Cx} {z : Zs} {Γ Γ1 : List Sl} {ct : Ct} {a b c e : Expr} {rest body : List Stmt} {α β ρ : Type} {A : Ty α} {R : Row ρ} {pos p p2 : Pos} {x : Str} {wa : (α → Prop) → Prop}
/-- name[j] of one's own mixed list -/
theorem xe_itMx {f : ρ → α} {y : ρ} {q : Addr} (i j : Nat) (hΓ : Γ[i]? = some (.mx q R y)) (hN : X.N[i]? = some x) (hv : Vis X.env.scope x) (hr : RowAt R j A f) (hi : XE X z Γ b tyI (fun k => k (j : Int))) (hs : PlainIx b) (hd : (x == ("__debug__" : Str)) = false := by decide) (hcd : (x == ("__classdict__" : Str)) = false := by decide) :
    XE X z Γ (.Subscript (.Name x p) b pos) A (fun k => k (f y)) := fun G0 H0 σ G H k Q E hw hk => by
  obtain ⟨ov, eo, vs, rfl, r, q'⟩ := E.at_ hΓ
  refine ⟨_, pe_ix ix_list (pe_var hN hv hd hcd) re hs, _, eo, hi G0 H0 σ G H (fun y => y = (j : Int)) _ E rfl fun G2 H2 u m W2 S2 r2 ej => ?_⟩
  obtain ⟨v, e, rv⟩ := hr G vs y q'
  subst ej
  exact ⟨q, vs, j, v, rfl, r2, SqL.of (r.step S2).h, atI_nat e, hk G2 H2 v _ W2 S2 (A.mono S2.g rv) hw⟩
/-- name[j] = e -/
theorem xb_setMx {g : ρ → α → ρ} {y : ρ} {q : Addr} {wk : ρ → Prop} (i j : Nat) (hΓ : Γ[i]? = some (.mx q R y)) (hN : X.N[i]? = some x) (hv : Vis X.env.scope x) (hr : RowPut R j A g) (he : XE X z Γ e A wa) (hb : XE X z Γ b tyI (fun k => k (j : Int))) (hn : ∀ y', XB X z ct (Γ.set i (.mx q R y')) rest (wk y'))
    (hs : swapsWithSole [.Subscript (.Name x p) b p2] e pos.line X.env = pure false := by rfl) (hw2 : swappedStores [.Subscript (.Name x p) b p2] e X.env = pure none := by rfl)
    (h1 : (assignEach [.Subscript (.Name x p) b p2] X.env).map (·.2) = [assign (.Subscript (.Name x p) b p2) X.env] := by rfl)
    (ha : ∀ v, assign (.Subscript (.Name x p) b p2) X.env v = (do
      let ov ← holding [v] (eval (.Name x p) X.env)
      let iv ← holding [v, ov] (eval b X.env)
      standAt p2
      holding [v, ov, iv] (setItem ov iv v)
      release [v, ov, iv] []) := by intro _; rfl) (hd : (x == ("__debug__" : Str)) = false := by decide) (hcd : (x == ("__classdict__" : Str)) = false := by decide) :
    XB X z ct Γ (.Assign [.Subscript (.Name x p) b p2] e pos :: rest) (wa fun y' => wk (g y y')) := fun G0 H0 D σ G H M E hw => by
  obtain ⟨ov, eo, vs, rfl, r, q'⟩ := E.at_ hΓ
  refine ⟨_, pss_cons (ps_asg re (pg_sub (pe_var hN hv hd hcd) re set_list ha) hs hw2 h1) rs, ?_⟩
  refine he G0 H0 σ G H _ _ E hw fun G1 H1 v y1 W1 S1 ry g1 => ?_
  refine ⟨_, eo, hb G0 H0 σ G1 H1 (fun y => y = (j : Int)) _ (E.step W1 S1) rfl fun G2 H2 u m W2 S2 rj ej => ?_⟩
  subst ej
  have r1 := r.step (S1.trans S2)
  obtain ⟨h3, h4⟩ := hr G2 vs y v y1 (R.mono (S1.trans S2).g q') (A.mono S2.g ry)
  refine ⟨q, vs, j, j, rfl, rj, r1.h, ?_, ?_⟩
  · unfold ixN
    rw [if_pos (by omega), if_pos (by omega)]
    simp
  · exact hn _ G0 H0 D σ G2 _ M ((E.step W2 (S1.trans S2)).mut hΓ eo rfl r1 ⟨_, rfl, ⟨r1.g, r1.z, r1.h0, upd_same⟩, h3⟩) g1
end
/-- a state that is a list of mixed items -/
def zmR {ρ : Type} (R : Row ρ) (I : ρ → Prop) : Zm := ⟨fun G o => ∃ vs x, o = .lst vs ∧ R.rep G vs x ∧ I x, fun s ⟨vs, x, e, r, i⟩ => ⟨vs, x, e, R.mono s r, i⟩⟩
section
variable {P : Program} {w : World} {K : PySem.W.Frag} {mg : Str → Option Value} {base : Heap} {ρ β φ : Type} {R : Row ρ} {B : Ty β} {Rs : Row φ} {I : φ → Prop} {x qual : Str} {params : Arguments} {body : List Stmt} {scope : Scope} {f : Addr} {fd : FuncData} {N ps : List Str} {n : Nat}
  {fsl : ρ → List Sl} {wf : ρ → (β → Prop) → Prop}
/-- the state's def from within: slot 0 is the state's list -/
def BodyM (P : Program) (w : World) (K : PySem.W.Frag) (mg : Str → Option Value) (base : Heap) (N : List Str) (qual : Str) (scope : Scope) (body : List Stmt) (f : Addr) (n : Nat) (Rs : Row φ) (I : φ → Prop) (B : Ty β) (Γ0 : Addr → φ → ρ → List Sl) (wf : ρ → (β → Prop) → Prop) : Prop :=
  ∀ (cdv : Value) (A : Around) (outer : List Env) (s : Shared) (H : Hp) (E : XK), Room n (A.deeper (PyProof.Rows.envOfC qual scope s.heap.objs.size f cdv)) → ∀ (st : Addr) (u : φ) (y : ρ) (k : β → Prop), I u →
    ∃ w' : Prop, (wf y k → w') ∧ XB (cxOf CX0 P w K mg base N qual scope f cdv A outer s H E).nox Z0 { n := fun _ => False, B := B, r := fun Γ z => ∃ u', Γ[0]? = some (.mx st Rs u') ∧ I u' ∧ k z } (Γ0 st u y) body w'
theorem cle_SM {Γ0 : Addr → φ → ρ → List Sl} (F : FunD K x x params body scope [] [] f fd) (hm : mg x = some (.ref f)) (S : FnScope N ps scope) (hb : BindOk (qual := x) x params body scope ps) (hn : R.n + 1 = ps.length) (hN : R.n + 1 ≤ N.length) (q : RowSl R fsl)
    (hΓ : ∀ st u y, Γ0 st u y = .mx st Rs u :: (fsl y ++ List.replicate (N.length - (R.n + 1)) .no)) (hB : BodyM P w K mg base N x scope body f n Rs I B Γ0 wf) : Cle P w K mg base x (n + 1) (spS (zmR Rs I) R B wf) := by
  refine ⟨f, fd, ps, F.ok S (fun vs H Q E h => ?_) (fun cdv A outer s H vs Q E hr h => ?_), hm, F.kp, F.bindsN hb⟩
  · obtain ⟨s, rs', G, y, k, e, _, r, _⟩ := h
    rw [e, List.length_cons, R.len r, hn]
  · obtain ⟨st, rs', G, y, k, e, W, r, hw, hk⟩ := h
    subst e
    obtain ⟨gs, o, hs, vs, u, eo, ru, iu⟩ := W.zk st rfl
    subst eo
    obtain ⟨w', hw', hx⟩ := hB cdv A outer s H E hr st u y k iu
    -- the base: all but the state
    have hb0 : ∀ b u, (fun b => if b = st then none else H b) b = some u → b ≠ st ∧ H b = some u := fun b u e => by
      have e : (if b = st then none else H b) = some u := e
      by_cases q : b = st
      · rw [if_pos q] at e; cases e
      · rw [if_neg q] at e; exact ⟨q, e⟩
    have e1 : L2.start N (.ref st :: rs') = some (.ref st) :: (rs'.map some ++ List.replicate (N.length - (rs'.length + 1)) none) := rfl
    have hl := R.len r
    have E0 : Ev Z0 G (fun b => if b = st then none else H b) G H (L2.start N (.ref st :: rs')) (Γ0 st u y) := by
      rw [hΓ, e1]
      have at_ : ∀ {i : Nat} {o : Option V}, (rs'.map some ++ List.replicate (N.length - (rs'.length + 1)) none)[i]? = some o → (i < rs'.length ∧ (rs'.map some)[i]? = some o) ∨ rs'.length ≤ i := fun {i o} h => by
        by_cases hi : i < rs'.length
        · rw [List.getElem?_append_left (by simpa using hi)] at h
          exact .inl ⟨hi, h⟩
        · exact .inr (by omega)
      refine ⟨W.z0, ⟨Same.refl _, fun a o _ e => (hb0 a o e).2, fun _ _ _ e => e, fun a o e => ⟨o, (hb0 a o e).2⟩⟩, ?_, fun i S o h1 h2 => ?_, fun i j S T o1 o2 l hij h1 h2 h5 h6 h3 h4 => ?_⟩
      · rw [List.length_cons, List.length_cons, List.length_append, List.length_map, List.length_replicate, List.length_append, List.length_replicate, q.len, hl]
      · cases i with
        | zero =>
          have e1 := Option.some.inj h1
          have e2 := Option.some.inj h2
          subst e1
          exact ⟨vs, e2.symm, ⟨gs, (fun q => nomatch q), by show (if st = st then none else H st) = none; rw [if_pos rfl], hs⟩, ru⟩
        | succ i =>
          rcases pad_at (i := i) h1 with h1 | e
          · rcases at_ (i := i) h2 with ⟨_, h2⟩ | h2
            · exact q.sl _ _ G H rs' y i S o r h1 h2
            · have := (List.getElem?_eq_some_iff.mp h1).1
              rw [q.len] at this
              omega
          · subst e; trivial
      · have own0 : ∀ {i : Nat} {S : Sl} {o l}, (Sl.mx st Rs u :: (fsl y ++ List.replicate (N.length - (R.n + 1)) .no))[i]? = some S → S.fp o l → i = 0 := fun {i S o l} h h' => by
          cases i with
          | zero => rfl
          | succ i =>
            rcases pad_at (i := i) h with h | e
            · exact (fp_own h' (q.own y i S h)).elim
            · subst e; exact h'.elim
        exact hij ((own0 h1 h3).trans (own0 h2 h4).symm)
    refine ⟨_, PSs.nox rs, hx G _ _ _ G H ⟨fun _ _ _ _ _ z => z.elim, fun _ _ _ _ _ z => z.elim, fun _ _ _ _ _ z => z.elim, fun σ' G' H' Γ v y' E' r' ⟨u', h0, iu', kz⟩ => ?_⟩ E0 (hw' hw)⟩
    obtain ⟨o, eo, vs', rfl, r2, q2⟩ := E'.at_ h0
    refine hk G' H' v y' ⟨E'.wd.gh, fun s' es => ?_⟩ ⟨E'.base.g, fun a o hz h => E'.base.h a o (fun q => nomatch q) ?_, fun a o h g => ?_, fun a o h => ?_⟩ r' kz
    · cases es
      exact ⟨r2.g, _, r2.h, vs', u', rfl, q2, iu'⟩
    · show (if a = st then none else H a) = some o
      rw [if_neg fun e => hz (by rw [e]; rfl)]
      exact h
    · by_cases e : a = st
      · rw [e]; exact r2.g
      · exact E'.base.n a o (by show (if a = st then none else H a) = some o; rw [if_neg e]; exact h) g
    · by_cases e : a = st
      · rw [e]; exact ⟨_, r2.h⟩
      · exact E'.base.t a o (by show (if a = st then none else H a) = some o; rw [if_neg e]; exact h)
end
end Zk
/-! TL9: enumerate over a tuple. -/
namespace Zk
section
open PySem PySem.Spec
theorem meets_enumerate_newT (l : Addr) (items : Array Value) :
    PySem.Meets (Builtin.«enumerate.__new__» ⟨[.type "enumerate", .ref l], []⟩) (fun _ R s => s.heap.IsTuple l items ∧
      R (.ok (.ret (.ref (s.heap.push { cls := .type "tuple_iterator", data := .fields #[.ref l, .int 0 0] }).objs.size)))
        { s with heap := (s.heap.push { cls := .type "tuple_iterator", data := .fields #[.ref l, .int 0 0] }).push { cls := .type "enumerate", data := .fields #[.none, .bool false, .ref s.heap.objs.size, rawInt 0, .none, .none] } }) :=
  .of_wp fun prog w A R s h => by
    obtain ⟨hp, g, d, tk, os⟩ := s; obtain ⟨hl, h⟩ := h
    have hsub := sub_enumerate
    have q1 : ∀ {A' : Around} {E : Value → Shared → Prop} {Q : Value → Shared → Prop}, Q (.ref hp.objs.size) ⟨hp.push { cls := .type "tuple_iterator", data := .fields #[.ref l, .int 0 0] }, g, d, tk, os⟩ → wpAny (model prog w) A' (pyIter (.ref l)) Q E ⟨hp, g, d, tk, os⟩ :=
      fun q => wpAny_pyIter_tuple (s := ⟨hp, g, d, tk, os⟩) hl q
    obtain ⟨o, ho, hc, n, hd⟩ := id hl
    have hty : Shared.TypeIs ⟨hp, g, d, tk, os⟩ (.ref l) "tuple" := ⟨o, ho, hc⟩
    obtain ⟨oc, od, dt, sl⟩ := o
    replace hc : oc = .type "tuple" := hc
    replace hd : dt = .seq items n := hd
    subst hc hd
    wp_walk using AutoSeq1.wpAny_loadPart' ho
    refine wpAny_stack_any fun st => wpAny_pure ?_
    split
    · rename_i c _ _ _ _ _
      cases (c == Value.type "enumerate")
      · wp_walk using AutoSeq1.wpAny_loadPart' ho, q1
        exact ⟨_, rfl, h⟩
      · wp_walk using AutoSeq1.wpAny_loadPart' ho, q1
        exact ⟨_, rfl, h⟩
    · wp_walk using AutoSeq1.wpAny_loadPart' ho, q1
      exact ⟨_, rfl, h⟩
theorem call_enumerate_tup {prog : Program} {w : World} {A : Around} {E : Value → Shared → Prop} {s : Shared} {l : Addr} {items : Array Value} {Q : Value → Shared → Prop} (hL : s.heap.IsTuple l items)
    (h : ∀ h', IsEnum h' (s.heap.objs.size + 1) s.heap.objs.size 0 .none → h'.IsTupleIter s.heap.objs.size l 0 → h'.objs.size = s.heap.objs.size + 2 →
      (∀ b o, s.heap.get? b = some o → h'.get? b = some o) → Q (.ref (s.heap.objs.size + 1)) { s with heap := h' }) :
    wpAny (model prog w) A (call (.type "enumerate") [.ref l]) Q E s := by
  refine callType_new F.called_enumerate (by decide) (F.typeCall_enumerate_1 _) (F.newCall_enumerate_1 _) (fun obj => F.args_object_init_2 obj _) F.entry_enumerate_new
    (meets_enumerate_newT l items) ⟨hL, ?_⟩
  have hz : (s.heap.push { cls := .type "tuple_iterator", data := .fields #[.ref l, .int 0 0] }).objs.size = s.heap.objs.size + 1 := Heap.size_push ..
  show _ ∧ _
  rw [hz]
  have he : IsEnum ((s.heap.push { cls := .type "tuple_iterator", data := .fields #[.ref l, .int 0 0] }).push
      { cls := .type "enumerate", data := .fields #[.none, .bool false, .ref s.heap.objs.size, rawInt 0, .none, .none] }) (s.heap.objs.size + 1) s.heap.objs.size 0 .none := by
    have := Heap.get?_push_size (s.heap.push { cls := .type "tuple_iterator", data := .fields #[.ref l, .int 0 0] })
      (o := { cls := .type "enumerate", data := .fields #[.none, .bool false, .ref s.heap.objs.size, rawInt 0, .none, .none] }) rfl
    rw [hz] at this; exact this
  refine ⟨⟨_, he, rfl⟩, h _ he ⟨_, Heap.get?_push_of_some _ (Heap.get?_push_size _ rfl), rfl, rfl⟩ (by rw [Heap.size_push, hz]) fun b o x => Heap.get?_push_of_some _ (Heap.get?_push_of_some _ x)⟩
theorem wpAny_pyNext_enum_tup_end {prog : Program} {w : World} {A : Around} {E : Value → Shared → Prop} {s : Shared} {e it l : Addr} {i : Nat} {j : Int} {items : Array Value} {old : Value} {Q : Option Value → Shared → Prop} (hh : A.handled = none)
    (he : IsEnum s.heap e it j old) (hit : s.heap.IsTupleIter it l i) (hl : s.heap.IsTuple l items) (hx : items[i]? = none)
    (hQ : ∀ h', Heap.ExtBut it s.heap h' → Q none { s with heap := h' }) : wpAny (model prog w) A (pyNext (.ref e)) Q E s := by
  have hT : s.TypeIs (.ref e) "enumerate" := ⟨_, he, rfl⟩
  unfold pyNext
  refine wpAny_bind (wpAny_attempt (wpAny_callSpecial?_slot (name := Str.ofString "__next__") hT F.slot_enumerate_next
    (wpAny_call_entry F.slot_enumerate_next hT F.entry_enumerate_next ?_ (F.args_enumerate_next_1 _))))
  show wpAny _ _ (field (.ref e) 2 >>= _) _ _ _
  refine wpAny_bind (wpAny_field he rfl (x := .ref it) rfl ?_)
  refine wpAny_bind (wpAny_nextOf_tuple_end hh hit hl hx fun h' x he' hx' => ?_)
  obtain ⟨o, ho, hc⟩ := hx'
  refine wpAny_bind (wpAny_isInstance (T := "StopIteration") (b := true) ⟨o, ho, hc⟩ isSubtype_stop ?_)
  exact wpAny_pure (hQ _ he')
end
section
open PySem PySem.Spec PyProof.Rows L2
/-- the tuple at a as it stands at each turn, each item in a new pair -/
def IteT (K : PySem.W.Frag) (a : Addr) : It :=
  ⟨fun i H => ∃ (xs : List V) (x : V), SqT K H a xs ∧ xs[i]? = some x, fun i H v H' => ∃ T x, v = .ref T ∧ H T = none ∧ H' = upd H T (.tup [.int (i : Nat), x]) ∧ ∀ xs, SqT K H a xs → xs[i]? = some x, fun i H => ∃ xs : List V, SqT K H a xs ∧ xs.length ≤ i⟩
theorem turn_enumT {P : Program} {w : World} {K : PySem.W.Frag} {elts : List Expr} {kk : Nat} {tpos : Pos} (a e it : Addr) :
    Turn P w K (.Tuple elts kk tpos) (IteT K a) [e, it] e (fun i h => (∃ old, IsEnum h e it ((i : Nat) : Int) old) ∧ h.IsTupleIter it a i ∧ e ≠ it) where
  mem := by simp
  obj := fun i h st b hb => by
    obtain ⟨⟨old, he⟩, ⟨o, ho, hc, hd⟩, _⟩ := st
    have e' : b = e ∨ b = it := by simpa using hb
    rcases e' with z | z
    · rw [z]; exact ⟨_, he, fun v q => nomatch q⟩
    · rw [z]; exact ⟨o, ho, fun v q => by rw [hd] at q; cases q⟩
  keep := fun i h h' st k => let ⟨⟨old, he⟩, hi, hne⟩ := st; ⟨⟨old, k e (by simp) _ he⟩, hi.at fun o q => k it (by simp) o q, hne⟩
  item := by
    intro X hP hw hK hc i pins s σ H E I hf st hg
    subst hP hw hK
    obtain ⟨⟨old, he⟩, hit, hne⟩ := st
    obtain ⟨xs, x, hq, hx⟩ := hg
    obtain ⟨its, rv, p, hz⟩ := I.tuple hq
    obtain ⟨u, hu, ru⟩ := rv.get hx
    have hel : e < s.heap.objs.size := Heap.lt_size he
    have hil : it < s.heap.objs.size := by obtain ⟨_, q, _⟩ := hit; exact Heap.lt_size q
    have hp : s.heap.IsTuple a its.toArray := p
    have hal : a < s.heap.objs.size := by obtain ⟨_, q, _⟩ := hp; exact Heap.lt_size q
    have hae : a ≠ e := fun z => by
      subst z
      obtain ⟨o, ho, hc2, _⟩ := hp
      unfold IsEnum at he
      rw [he] at ho
      cases ho
      injection (show Value.type "enumerate" = Value.type "tuple" from hc2) with z
      exact absurd z (by decide)
    have hai : a ≠ it := fun z => by
      subst z
      obtain ⟨o, ho, hc2, _⟩ := hp
      obtain ⟨o2, ho2, hc3, _⟩ := hit
      rw [ho2] at ho
      cases ho
      rw [hc3] at hc2
      injection hc2 with z
      exact absurd z (by decide)
    have hl : i < its.toArray.size := by
      have := (List.getElem?_eq_some_iff.mp hu).1
      simpa using this
    refine wpAny_pyNext_enum_itemD (Draws.tuple (show X.A.in1.handled = none from I.ok.hd hc) it a hai its.toArray) he ⟨hit, hp⟩ hl hne (by simp [hne, Ne.symm hae]) fun y h' tk hy ho hst hT hsz hk => ?_
    obtain ⟨hit', _⟩ := hst
    have ey : y = u := by
      have q : its.toArray[i]? = some y := hy
      rw [show its.toArray[i]? = its[i]? from by simp, hu] at q
      exact (Option.some.inj q).symm
    subst ey
    refine ⟨_, rfl, wpAny_letOwnedTupleGo_enum (s := { s with heap := h', toks := tk + 1 }) ho fun h'' he' sb => ?_⟩
    have hT2 : h''.get? s.heap.objs.size = some { cls := .type "tuple", data := .seq #[.int i tk, y] } := (sb.2 _ (Nat.ne_of_gt hel)).trans hT
    have new : ObjOk X.prog X.w (upd H s.heap.objs.size (.tup [.int (i : Nat), x])) h'' s.heap.objs.size (.tup [.int (i : Nat), x]) :=
      ⟨by show 2 ≤ sizeLine; decide, [.int i tk, y], .cons ⟨_, rfl⟩ (.cons ru .nil), ⟨_, hT2, rfl, _, rfl⟩⟩
    have I1 : Inv X pins σ (upd H s.heap.objs.size (.tup [.int (i : Nat), x])) { s with heap := h'', toks := tk + 1 } :=
      I.turnedNew (ch := [e, it]) (fun b ob hb q => (sb.2 b (fun z => hb (by simp [z]))).trans (hk b ob (fun z => hb (by simp [z])) (fun z => hb (by simp [z])) q)) hf (Nat.le_refl _) new
    refine ⟨.ref s.heap.objs.size, _, I1, rfl, ⟨_, x, rfl, I.hok.fresh (Nat.le_refl _), rfl, fun ys hy => by rw [I.tuple_inj hy hq]; exact hx⟩, ⟨⟨y, ?_⟩, hit'.at fun o q => (sb.2 it (Ne.symm hne)).trans q, hne⟩, fun b hb => ?_⟩
    · have e1 : ((i + 1 : Nat) : Int) = (i : Int) + 1 := by omega
      rw [e1]; exact he'
    · have hb' : b < s.heap.objs.size := by
        have e' : b = e ∨ b = it := by simpa using hb
        rcases e' with z | z
        · rw [z]; exact hel
        · rw [z]; exact hil
      rw [upd_ne (Nat.ne_of_lt hb')]
      exact (hf b hb).1
  done := by
    intro X hP hw hK hc i pins s σ H E I hf st hg
    subst hP hw hK
    obtain ⟨⟨old, he⟩, hit, hne⟩ := st
    obtain ⟨xs, hq, hx⟩ := hg
    obtain ⟨its, rv, p, hz⟩ := I.tuple hq
    obtain ⟨f0, f1, f2, f3, f4, f5⟩ := hf it (by simp)
    have hl := rv.length
    have hp : s.heap.IsTuple a its.toArray := p
    exact wpAny_pyNext_enum_tup_end (I.ok.hd hc) he hit hp (by simp; omega) fun h' eb => ⟨rfl, I.turned (t' := s.toks) (fun b o hb q => eb b o hb q) f0 f1 f3 f4 f5⟩
  self := fun A i s Q E st h => let ⟨⟨_, he⟩, _⟩ := st; wpAny_pyIter_enum he h
def iEnumT (K : PySem.W.Frag) (ta : TA) : TI := fun σ H R => ta σ H fun vs H1 => ∃ a xs, vs = [.ref a] ∧ SqT K H1 a xs ∧ R (IteT K a) H1
theorem pi_enumT {X : Cx} {e : Expr} {ta : TA} {p pos tpos : Pos} {elts : List Expr} {kk : Nat} (hg : Gl X "enumerate") (hm : X.mg "enumerate" = none) (ha : PA X [e] ta) (hs : starEach [e] X.env = [(false, eval e X.env)] := by rfl) :
    PI X (.Tuple elts kk tpos) (.Call (.Name "enumerate" p) [e] [] pos) (iEnumT X.K ta) := by
  refine ⟨fun pins s σ H R I h => ?_⟩
  refine Call_ (ld_blt I hg hm boot_enumerate (PyProof.Rows.callWith_type1 (thn (ha.run pos pins s σ H _ I h) fun us s1 ⟨vs, H1, I1, r1, q1⟩ => ?_) hs rfl))
  obtain ⟨a, xs, ex, hq, q⟩ := q1
  subst ex
  cases r1 with
  | cons r rr =>
    cases rr
    cases r
    obtain ⟨its, rv, p', hz⟩ := I1.tuple hq
    refine call_enumerate_tup (show s1.heap.IsTuple a its.toArray from p') fun h' he hit hsz hk => wpAny_pyIter_enum he ?_
    have I2 : Inv X pins σ H1 { s1 with heap := h' } := I1.kept (t' := s1.toks) hk
    refine ⟨s1.heap.objs.size + 1, [s1.heap.objs.size + 1, s1.heap.objs.size], _, _, H1, rfl, I2, turn_enumT a (s1.heap.objs.size + 1) s1.heap.objs.size, ⟨⟨.none, he⟩, hit, Nat.succ_ne_self _⟩, fun b hb => ?_, q⟩
    have e' : b = s1.heap.objs.size + 1 ∨ b = s1.heap.objs.size := by simpa using hb
    have hle : s1.heap.objs.size ≤ b := by
      rcases e' with z | z
      · rw [z]; exact Nat.le_add_right _ _
      · rw [z]; exact Nat.le_refl _
    exact I1.fpOk hle (I1.hok.fresh hle)
end
end Zk
/-! TL10: more rules. -/
namespace Zk
open PySem PySem.Spec L2

/-! ### texts in order -/
def leS (a b : Str) : Bool := !ltCps b.cps.toList a.cps.toList
theorem leS_iff {a b : Str} : leS a b = true ↔ a.cps.toList ≤ b.cps.toList := by
  unfold leS
  rw [PyProof.Rows.ltCps_eq]
  simp [List.not_lt]
theorem str_ext {a b : Str} (h : a.cps.toList = b.cps.toList) : a = b := by
  obtain ⟨x⟩ := a
  obtain ⟨y⟩ := b
  have : x = y := Array.toList_inj.mp h
  rw [this]
theorem leS_anti {a b : Str} (h : leS a b = true) (h' : leS b a = true) : a = b := str_ext (List.le_antisymm (leS_iff.mp h) (leS_iff.mp h'))
theorem leS_trans {a b c : Str} (h : leS a b = true) (h' : leS b c = true) : leS a c = true := leS_iff.mpr (List.le_trans (leS_iff.mp h) (leS_iff.mp h'))
theorem leS_total (a b : Str) : (leS a b || leS b a) = true := by
  rw [Bool.or_eq_true, leS_iff, leS_iff]
  exact List.le_total _ _
def sortS (xs : List Str) : List Str := xs.mergeSort leS
theorem sortS_perm (xs : List Str) : (sortS xs).Perm xs := List.mergeSort_perm xs leS
theorem sortS_pw (xs : List Str) : (sortS xs).Pairwise (fun a b => leS a b = true) := List.pairwise_mergeSort (le := leS) (fun _ _ _ => leS_trans) leS_total xs
theorem risingS_pw : ∀ (p : Str) (l : List Str), PyProof.Rows.risingS p l = true → (p :: l).Pairwise (fun a b => leS a b = true)
  | p, [], _ => .cons (by simp) .nil
  | p, x :: r, h => by
    have h : (!ltCps x.cps.toList p.cps.toList && PyProof.Rows.risingS x r) = true := h
    rw [Bool.and_eq_true] at h
    have ih := risingS_pw x r h.2
    refine .cons (fun y hy => ?_) ih
    rcases List.mem_cons.mp hy with e | e
    · subst e; exact h.1
    · exact leS_trans h.1 ((List.pairwise_cons.mp ih).1 y e)
theorem sortedS_pw (l : List Str) (h : PyProof.Rows.sortedS l = true) : l.Pairwise (fun a b => leS a b = true) := by
  cases l with
  | nil => exact .nil
  | cons x r => exact risingS_pw x r h
theorem sortS_eq {xs ys : List Str} (p : ys.Perm xs) (h : ys.Pairwise (fun a b => leS a b = true)) : ys = sortS xs :=
  List.Perm.eq_of_pairwise (fun _ _ _ _ h1 h2 => leS_anti h1 h2) h (sortS_pw xs) (p.trans (sortS_perm xs).symm)

section
variable {X : Cx} {z : Zs} {Γ Γ1 : List Sl} {ct : Ct} {a b c e tg iter : Expr} {es : List Expr} {rest body orelse : List Stmt} {α β γ τ ρ : Type} {A : Ty α} {B : Ty β} {C : Ty γ} {R : Row ρ} {pos p p' p2 tpos : Pos} {x m : Str} {w : Prop}
  {wa : (α → Prop) → Prop} {wb : (β → Prop) → Prop} {wl : (List α → Prop) → Prop} {wi wj wk : (Int → Prop) → Prop} {ws : (Str → Prop) → Prop} {w1 w2 : (Bool → Prop) → Prop} {wn : (List Int → Prop) → Prop}
/-! ### second operands that do nothing -/
def powOk (i j n : Int) : Bool := decide (0 ≤ j) && decide (j ≤ 1000000) && decide (i.natAbs < 2 ^ 64) && decide (i ^ j.toNat = n)
theorem powOk_of {i j n : Int} (h : powOk i j n = true) : CPow i j ∧ i ^ j.toNat = n := by
  unfold powOk at h
  simp only [Bool.and_eq_true, decide_eq_true_eq] at h
  exact ⟨⟨h.1.1.1, h.1.1.2, h.1.2⟩, h.2⟩
theorem xe_powc {n : Int} {i j : Int} (hn : powOk i j n = true) (ha : XE X z Γ a tyI (fun k => k i)) (hb : XE X z Γ b tyI (fun k => k j)) : XE X z Γ (.BinOp a .Pow b pos) tyI (fun k => k n) := xe_imp (xe_pow ha hb) fun k h => ⟨(powOk_of hn).1, by rw [(powOk_of hn).2]; exact h⟩
theorem xw_andp {q : Bool} {rst : List Expr} (h : XT X z Γ a w1) (hr : XW X z Γ (.BoolOp .And (b :: rst) pos) w2) (hq : w2 = fun k => k q) : XW X z Γ (.BoolOp .And (a :: b :: rst) pos) (fun k => w1 fun x => k (x && q)) := by
  subst hq
  exact fun G0 H0 σ G H k Q E hw hk =>
  ⟨_, pw_and rt rw_, h G0 H0 σ G H _ _ E hw fun G1 H1 x W1 S1 h1 => by
    cases x with
    | true => exact hr G0 H0 σ G1 H1 k Q (E.step W1 S1) h1 fun G' H' b W S q => hk G' H' b W (S1.trans S) q
    | false => exact hk G1 H1 false W1 S1 h1⟩
theorem xw_orp {q : Bool} {rst : List Expr} (h : XT X z Γ a w1) (hr : XW X z Γ (.BoolOp .Or (b :: rst) pos) w2) (hq : w2 = fun k => k q) : XW X z Γ (.BoolOp .Or (a :: b :: rst) pos) (fun k => w1 fun x => k (x || q)) := by
  subst hq
  exact fun G0 H0 σ G H k Q E hw hk =>
  ⟨_, pw_or rt rw_, h G0 H0 σ G H _ _ E hw fun G1 H1 x W1 S1 h1 => by
    cases x with
    | true => exact hk G1 H1 true W1 S1 h1
    | false => exact hr G0 H0 σ G1 H1 k Q (E.step W1 S1) h1 fun G' H' b W S q => hk G' H' b W (S1.trans S) q⟩
theorem xe_andp {q : Bool} {rst : List Expr} (h : XE X z Γ a tyB w1) (hr : XE X z Γ (.BoolOp .And (b :: rst) pos) tyB w2) (hq : w2 = fun k => k q) : XE X z Γ (.BoolOp .And (a :: b :: rst) pos) tyB (fun k => w1 fun x => k (x && q)) := by
  subst hq
  exact fun G0 H0 σ G H k Q E hw hk =>
  ⟨_, pe_and re re, h G0 H0 σ G H _ _ E hw fun G1 H1 v x W1 S1 r1 h1 => ⟨x, r1, by
    cases x with
    | true => exact hr G0 H0 σ G1 H1 k Q (E.step W1 S1) h1 fun G' H' v b W S r q => hk G' H' v b W (S1.trans S) r q
    | false => exact hk G1 H1 _ false W1 S1 rfl h1⟩⟩
theorem xe_orp {q : Bool} {rst : List Expr} (h : XE X z Γ a tyB w1) (hr : XE X z Γ (.BoolOp .Or (b :: rst) pos) tyB w2) (hq : w2 = fun k => k q) : XE X z Γ (.BoolOp .Or (a :: b :: rst) pos) tyB (fun k => w1 fun x => k (x || q)) := by
  subst hq
  exact fun G0 H0 σ G H k Q E hw hk =>
  ⟨_, pe_or re re, h G0 H0 σ G H _ _ E hw fun G1 H1 v x W1 S1 r1 h1 => ⟨x, r1, by
    cases x with
    | true => exact hk G1 H1 _ true W1 S1 rfl h1
    | false => exact hr G0 H0 σ G1 H1 k Q (E.step W1 S1) h1 fun G' H' v b W S r q => hk G' H' v b W (S1.trans S) r q⟩⟩
theorem xe_ifExpp {q : Bool} {y1 y2 : α} {wa2 wa3 : (α → Prop) → Prop} (hc : XT X z Γ c w1) (ha : XE X z Γ a A wa2) (hb : XE X z Γ b A wa3) (h1 : w1 = fun k => k q) (h2 : wa2 = fun k => k y1) (h3 : wa3 = fun k => k y2) : XE X z Γ (.IfExp c a b pos) A (fun k => k (if q = true then y1 else y2)) := xe_imp (xe_ifExp hc ha hb) fun k h => by
  subst h1 h2 h3
  cases q with
  | true => exact h
  | false => exact h
/-! ### a < b < c -/
theorem chain_ok {op op' : CmpOp} {g g' : Int → Int → Bool} {y v : Int} (ha : XE X z Γ a tyI wi) (hb : XE X z Γ b tyI (fun k => k y)) (hc : XE X z Γ c tyI (fun k => k v)) {G0 H0 : Hp} {σ : L2.St} {G H : Hp} {k : Bool → Prop} {Q : VK} (E : Ev z G0 H0 G H σ Γ) (hw : wi fun x => k (g x y && g' y v))
    (hk : ∀ G' H' (b : Bool), Wd z G' H' → Stp z G H G' H' → k b → Q (.bl b) H') : tChain (rI0 fun i j => .bl (g i j)) (rI0 fun i j => .bl (g' i j)) (RE X a) (RE X b) (RE X c) σ H Q :=
  ha G0 H0 σ G H _ _ E hw fun G1 H1 v1 x1 W1 S1 r1 h1 => hb G0 H0 σ G1 H1 (fun q => q = y) _ (E.step W1 S1) rfl fun G2 H2 v2 y2 W2 S2 r2 e2 => by
    subst e2
    refine ⟨x1, y2, r1, r2, g x1 y2, rfl, ?_⟩
    cases hg : g x1 y2 with
    | false =>
      rw [if_neg (by decide)]
      exact hk G2 H2 false W2 (S1.trans S2) (by rw [hg] at h1; exact h1)
    | true =>
      rw [if_pos rfl]
      refine hc G0 H0 σ G2 H2 (fun q => q = v) _ (E.step W2 (S1.trans S2)) rfl fun G3 H3 v3 y3 W3 S3 r3 e3 => ?_
      subst e3
      exact ⟨y2, y3, r2, r3, hk G3 H3 (g' y2 y3) W3 ((S1.trans S2).trans S3) (by rw [hg] at h1; exact h1)⟩
theorem xe_chain {op op' : CmpOp} {g g' : Int → Int → Bool} {y v : Int} (o1 : OpR X (compareOp op) (rI0 fun i j => .bl (g i j))) (o2 : OpR X (compareOp op') (rI0 fun i j => .bl (g' i j))) (ha : XE X z Γ a tyI wi) (hb : XE X z Γ b tyI wj) (hc : XE X z Γ c tyI wk) (h1 : wj = fun k => k y) (h2 : wk = fun k => k v)
    (hm : lastMarks [op, op'] [b, c] = false := by with_unfolding_all rfl) : XE X z Γ (.Compare a [op, op'] [b, c] pos) tyB (fun k => wi fun x => k (g x y && g' y v)) := by
  subst h1 h2
  exact fun G0 H0 σ G H k Q E hw hk =>
  ⟨_, pe_chain o1 o2 re re re hm, chain_ok (op := op) (op' := op') ha hb hc E hw fun G' H' b W S q => hk G' H' _ b W S rfl q⟩
theorem xt_chain {op op' : CmpOp} {g g' : Int → Int → Bool} {y v : Int} (o1 : OpR X (compareOp op) (rI0 fun i j => .bl (g i j))) (o2 : OpR X (compareOp op') (rI0 fun i j => .bl (g' i j))) (ha : XE X z Γ a tyI wi) (hb : XE X z Γ b tyI wj) (hc : XE X z Γ c tyI wk) (h1 : wj = fun k => k y) (h2 : wk = fun k => k v)
    (hm : lastMarks [op, op'] [b, c] = false := by with_unfolding_all rfl) : XT X z Γ (.Compare a [op, op'] [b, c] pos) (fun k => wi fun x => k (g x y && g' y v)) := by
  subst h1 h2
  exact fun G0 H0 σ G H k Q E hw hk =>
  ⟨_, pt_chain o1 o2 re re re hm, chain_ok (op := op) (op' := op') ha hb hc E hw fun G' H' b W S q => ⟨b, rfl, hk G' H' b W S q⟩⟩
/-! ### enumerate -/
def enumA (xs : List α) : List (Int × α) := xs.mapIdx fun i x => ((i : Int), x)
theorem enumA_length {xs : List α} : (enumA xs).length = xs.length := List.length_mapIdx
theorem enumA_at {xs : List α} {i : Nat} {y : Int × α} (h : (enumA xs)[i]? = some y) : ∃ x, xs[i]? = some x ∧ y = ((i : Int), x) := by
  unfold enumA at h
  rw [List.getElem?_mapIdx] at h
  cases q : xs[i]? with
  | none => rw [q] at h; cases h
  | some x => rw [q] at h; exact ⟨x, rfl, (Option.some.inj h).symm⟩
theorem it_enumL {K : PySem.W.Frag} {G : Hp} {q : Addr} {vs : List V} {xs : List α} (hq : G q = some (.lst vs)) (r : Paired (A.rep G) vs xs) : ItOk z G (Ite K q) (tyT (Row.cons tyI (Row.one A))) (enumA xs) where
  go := fun i x G2 H2 W s h => by
    obtain ⟨y, hy, _⟩ := enumA_at h
    obtain ⟨v, hv, _⟩ := Paired.at_ r hy
    exact ⟨vs, v, SqL.of (W.of (s _ _ hq) nodl), hv⟩
  yld := fun i x G2 H2 v H3 W s h ⟨T, u, e, nT, eH, y⟩ => by
    obtain ⟨y', hy, ex⟩ := enumA_at h
    obtain ⟨u', hu, ru⟩ := Paired.at_ r hy
    have q2 := y vs (SqL.of (W.of (s _ _ hq) nodl))
    rw [hu] at q2
    have e3 := Option.some.inj q2
    subst e eH ex e3
    have ng := W.gh.free nT
    exact ⟨_, W.new nT, Stp.new W.gh nT, T, _, rfl, upd_same, _, [u'], rfl, rfl, u', rfl, A.mono (s.trans (same_new ng)) ru⟩
  stop := fun G2 H2 W s => ⟨vs, SqL.of (W.of (s _ _ hq) nodl), by rw [enumA_length, r.length]; exact Nat.le_refl _⟩
theorem it_enumP {K : PySem.W.Frag} {G : Hp} {q : Addr} {vs : List V} {xs : List α} (hq : G q = some (.tup vs)) (r : Paired (A.rep G) vs xs) : ItOk z G (IteT K q) (tyT (Row.cons tyI (Row.one A))) (enumA xs) where
  go := fun i x G2 H2 W s h => by
    obtain ⟨y, hy, _⟩ := enumA_at h
    obtain ⟨v, hv, _⟩ := Paired.at_ r hy
    exact ⟨vs, v, SqT.of (W.of (s _ _ hq) nodt), hv⟩
  yld := fun i x G2 H2 v H3 W s h ⟨T, u, e, nT, eH, y⟩ => by
    obtain ⟨y', hy, ex⟩ := enumA_at h
    obtain ⟨u', hu, ru⟩ := Paired.at_ r hy
    have q2 := y vs (SqT.of (W.of (s _ _ hq) nodt))
    rw [hu] at q2
    have e3 := Option.some.inj q2
    subst e eH ex e3
    have ng := W.gh.free nT
    exact ⟨_, W.new nT, Stp.new W.gh nT, T, _, rfl, upd_same, _, [u'], rfl, rfl, u', rfl, A.mono (s.trans (same_new ng)) ru⟩
  stop := fun G2 H2 W s => ⟨vs, SqT.of (W.of (s _ _ hq) nodt), by rw [enumA_length, r.length]; exact Nat.le_refl _⟩
theorem xi_enumL {elts : List Expr} {kk : Nat} (hm : X.mg "enumerate" = none) (h : XE X z Γ e (tyL A) wl) (hg : Gl X "enumerate" := by rfl) (hs : starEach (e :: []) X.env = (false, eval e X.env) :: starEach [] X.env := by rfl) :
    XI X z Γ (.Tuple elts kk tpos) (.Call (.Name "enumerate" p) [e] [] pos) (tyT (Row.cons tyI (Row.one A))) (fun k => wl fun xs => k (enumA xs)) := fun G0 H0 σ G H k R E hw hk =>
  ⟨_, pi_enum hg hm (pa_cons re pa_nil hs) (hs.trans rfl), h G0 H0 σ G H _ _ E hw fun G1 H1 v xs W1 S1 ⟨q, vs, ev, hq, r⟩ h1 => ⟨q, vs, by rw [ev], SqL.of (W1.of hq nodl), hk G1 H1 _ _ W1 S1 (it_enumL hq r) h1⟩⟩
theorem xi_enumP {elts : List Expr} {kk : Nat} (hm : X.mg "enumerate" = none) (h : XE X z Γ e (tyP A) wl) (hg : Gl X "enumerate" := by rfl) (hs : starEach (e :: []) X.env = (false, eval e X.env) :: starEach [] X.env := by rfl) :
    XI X z Γ (.Tuple elts kk tpos) (.Call (.Name "enumerate" p) [e] [] pos) (tyT (Row.cons tyI (Row.one A))) (fun k => wl fun xs => k (enumA xs)) := fun G0 H0 σ G H k R E hw hk =>
  ⟨_, pi_enumT hg hm (pa_cons re pa_nil hs) (hs.trans rfl), h G0 H0 σ G H _ _ E hw fun G1 H1 v xs W1 S1 ⟨q, vs, ev, hq, r⟩ h1 => ⟨q, vs, by rw [ev], SqT.of (W1.of hq nodt), hk G1 H1 _ _ W1 S1 (it_enumP hq r) h1⟩⟩
/-- a list unpacked -/
theorem xg_lst {is : List Nat} {tgs : List Expr} {Γ' : ρ → List Sl} {k : Nat} (hc : X.calm = true) (h : XGs X z Γ tgs R is Γ') (hn : (assignEach tgs X.env).length = R.n := by rfl) (hst : (assignEach tgs X.env).findIdx? (·.1) = none := by rfl) : XG X z Γ (.Tuple tgs k pos) (tyM R) is Γ' :=
  fun G0 H0 σ G H v x Q E ⟨q, vs, ev, hq, r⟩ hQ => ⟨_, pg_unl hc rgs hn hst, q, vs, ev, SqL.of (E.wd.lst hq (fun _ => by intro e; cases e)).r, R.len r, h G0 H0 σ G H vs x Q E r hQ⟩
/-! ### built-ins -/
theorem xe_abs (hm : X.mg "abs" = none) (ha : XE X z Γ a tyI wi) (hg : Gl X "abs" := by rfl) (hs : starEach (a :: []) X.env = (false, eval a X.env) :: starEach [] X.env := by rfl) :
    XE X z Γ (.Call (.Name "abs" p) [a] [] pos) tyI (fun k => wi fun x => k (x.natAbs : Int)) := fun G0 H0 σ G H k Q E hw hk =>
  ⟨_, pe_callB call_abs hg hm (by decide +kernel) (pa_cons re pa_nil hs) (by decide) (by decide) hs rfl, ha G0 H0 σ G H _ _ E hw fun G1 H1 v x W1 S1 r h1 => ⟨x, by rw [show v = V.int x from r], hk G1 H1 _ (x.natAbs : Int) W1 S1 (by show V.int _ = V.int _; congr 1; split <;> omega) h1⟩⟩
theorem xe_int1 (hm : X.mg "int" = none) (ha : XE X z Γ a tyI wi) (hg : Gl X "int" := by rfl) (hs : starEach (a :: []) X.env = (false, eval a X.env) :: starEach [] X.env := by rfl) :
    XE X z Γ (.Call (.Name "int" p) [a] [] pos) tyI wi := fun G0 H0 σ G H k Q E hw hk =>
  ⟨_, pe_callTy call_int1 hg hm (by decide +kernel) (pa_cons re pa_nil hs) (by decide) (by decide) hs rfl, ha G0 H0 σ G H _ _ E hw fun G1 H1 v x W1 S1 r h1 => .inl ⟨x, by rw [show v = V.int x from r], hk G1 H1 _ x W1 S1 rfl h1⟩⟩
theorem rgV_eq {n : Int} : rgV 0 n = (rng 0 n.toNat).map V.int := by
  unfold rgV rng
  rw [List.map_map, Int.sub_zero]
  rfl
theorem xf_listRange (hc : X.calm = true) (hm : X.mg "list" = none) (hm2 : X.mg "range" = none) (ha : XE X z Γ a tyI wi) (hg : Gl X "list" := by rfl) (hg2 : Gl X "range" := by rfl) (hs : starEach (a :: []) X.env = (false, eval a X.env) :: starEach [] X.env := by rfl)
    (hs2 : starEach [.Call (.Name "range" p) [a] [] p2] X.env = (false, eval (.Call (.Name "range" p) [a] [] p2) X.env) :: starEach [] X.env := by rfl) :
    XF X z Γ (.Call (.Name "list" p') [.Call (.Name "range" p) [a] [] p2] [] pos) tyI (fun k => wi fun n => (-(2 ^ 62) ≤ n ∧ n < 2 ^ 62 ∧ n.toNat ≤ sizeLine) ∧ k (rng 0 n.toNat)) := fun G0 H0 σ G H k Q E hw hk =>
  ⟨_, pe_listRg hc hg hm (prg_1 hg2 hm2 re hs) hs2, ha G0 H0 σ G H _ _ E hw fun G1 H1 v n W1 S1 r ⟨hb, h1⟩ => ⟨n, r, ⟨by decide, by decide, hb.1, hb.2.1, by rw [Int.sub_zero]; exact hb.2.2⟩, by
    rw [rgV_eq]
    exact xf_last W1 S1 (pair_ints _ _) h1 hk⟩⟩
theorem xf_sortS (hm : X.mg "sorted" = none) {wt : (List Str → Prop) → Prop} (h : XL X z Γ a tyS wt) (hg : Gl X "sorted" := by rfl) (hs : starEach (a :: []) X.env = (false, eval a X.env) :: starEach [] X.env := by rfl) :
    XF X z Γ (.Call (.Name "sorted" p) [a] [] pos) tyS (fun k => wt fun xs => xs.length < 64 ∧ k (sortS xs)) := fun G0 H0 σ G H k Q E hw hk =>
  ⟨_, pe_callB cr_sortedS hg hm (by decide +kernel) (pa_cons re pa_nil hs) (by decide) (by decide) hs rfl, h G0 H0 σ G H _ _ E hw fun G1 H1 q vs xs W1 S1 sq r ⟨hl, h1⟩ => ⟨q, xs, rfl, by rw [← paired_strs r]; exact SqL.of sq.r, hl, fun ys p hp hs' np => by
    rw [sortS_eq hp (sortedS_pw ys hs')]
    exact xf_last W1 S1 (pair_strs _ _ fun x hx => paired_sok r x ((sortS_perm xs).mem_iff.mp hx)) h1 hk p np⟩⟩
/-! ### comprehensions that are maps -/
theorem WLc_map {xs : List α} {f : α → β} {k : List β → Prop} (hl : xs.length < sizeLine) (h : k (xs.map f)) : WLc xs (fun _ kk => kk true) (fun x kk => kk (f x)) k :=
  ⟨hl, fun i acc => acc = (xs.take i).map f, by simp, fun i x acc hx hI => by
    show acc ++ [f x] = _
    rw [hI, List.take_add_one, hx]
    simp, fun acc hI => by rw [hI, List.take_length]; exact h⟩
theorem WLc_filter {xs : List α} {f : α → β} {g : α → Bool} {k : List β → Prop} (hl : xs.length < sizeLine) (h : k ((xs.filter g).map f)) : WLc xs (fun x kk => kk (g x)) (fun x kk => kk (f x)) k :=
  ⟨hl, fun i acc => acc = ((xs.take i).filter g).map f, by simp, fun i x acc hx hI => by
    show if g x = true then acc ++ [f x] = ((xs.take (i + 1)).filter g).map f else acc = ((xs.take (i + 1)).filter g).map f
    rw [List.take_add_one, hx]
    cases hg : g x with
    | true => simp [hI, hg]
    | false => simp [hI, hg], fun acc hI => by rw [hI, List.take_length]; exact h⟩
theorem xf_imp {w w' : (List α → Prop) → Prop} (h : XF X z Γ e A w) (f : ∀ k, w' k → w k) : XF X z Γ e A w' := fun G0 H0 σ G H k Q E hw hk => h G0 H0 σ G H k Q E (f k hw) hk
/-! ### isinstance of what is known -/
class IsTy (A : Ty α) (n : outParam String) : Prop where
  ty : ∀ {K : PySem.W.Frag} {z : Zs} {G H : Hp} {v : V} {x : α}, Wd z G H → A.rep G v x → TyX K H v (.type n)
instance : IsTy tyI "int" := ⟨fun _ h => by rw [show _ = V.int _ from h]; exact .base (.int _)⟩
instance : IsTy tyB "bool" := ⟨fun _ h => by rw [show _ = V.bl _ from h]; exact .base (.bl _)⟩
instance : IsTy tyS "str" := ⟨fun _ h => by rw [show _ = V.str _ from h.1]; exact .base (.str _)⟩
instance : IsTy tyU "NoneType" := ⟨fun _ h => by rw [show _ = V.non from h]; exact .base .non⟩
instance : IsTy (tyL A) "list" := ⟨fun W ⟨q, vs, e, hq, _⟩ => by rw [e]; exact .base (.lst (W.of hq nodl))⟩
instance : IsTy (tyM R) "list" := ⟨fun W ⟨q, vs, e, hq, _⟩ => by rw [e]; exact .base (.lst (W.of hq nodl))⟩
instance : IsTy (tyP A) "tuple" := ⟨fun W ⟨q, vs, e, hq, _⟩ => by rw [e]; exact .base (.tup (W.of hq nodt))⟩
instance : IsTy (tyT R) "tuple" := ⟨fun W ⟨q, vs, e, hq, _⟩ => by rw [e]; exact .base (.tup (W.of hq nodt))⟩
instance : IsTy (tyD A) "dict" := ⟨fun W ⟨q, vs, e, hq, _⟩ => by
  rw [e]
  rcases (W.dk hq).r with h | ⟨o, h⟩
  · exact .base (.dK h)
  · exact .fDict h⟩
theorem xe_isi {n c : String} {r : Bool} [IsTy A n] (hm : X.mg "isinstance" = none) (hm2 : X.mg c = none) (hv : bootBuiltins c = some (.type c)) (hk : kitB n c = some r) (h : XE X z Γ a A wa) (hg : Gl X "isinstance" := by rfl) (hg2 : Gl X c := by rfl)
    (hs : starEach (a :: [.Name c p2]) X.env = (false, eval a X.env) :: starEach [.Name c p2] X.env := by rfl) (hs2 : starEach (.Name c p2 :: []) X.env = (false, eval (.Name c p2) X.env) :: starEach [] X.env := by rfl)
    (hpl : (backTo pos (starEach [.Name c p2] X.env)).any (·.1) = false := by rfl) (hn : (c : Str) ≠ "__name__" := by decide) (hd : ((c : Str) == ("__debug__" : Str)) = false := by decide) :
    XE X z Γ (.Call (.Name "isinstance" p) [a, .Name c p2] [] pos) tyB (fun k => wa fun _ => k r) := fun G0 H0 σ G H k Q E hw hk' =>
  ⟨_, pe_callB call_isi hg hm (by decide +kernel) (pa_cons re (pa_cons (pe_bltn (v := .ty c) hg2 hm2 hv rfl hn hd) pa_nil hs2) hs) (by decide) (by decide) hs hpl, h G0 H0 σ G H _ _ E hw fun G1 H1 v x W1 S1 rv h1 =>
    ⟨v, .ty c, _, _, r, rfl, .ty c, IsTy.ty W1 rv, kit_ty hk, hk' G1 H1 _ r W1 S1 rfl h1⟩⟩
/-! ### statements -/
/-- a, b = e -/
theorem xb_unp {is : List Nat} {Γ' : α → List Sl} {wk : α → Prop} (he : XE X z Γ e A wa) (hg : XG X z Γ tg A is Γ') (hn : ∀ y, XB X z ct (Γ' y) rest (wk y))
    (hs : swapsWithSole [tg] e pos.line X.env = pure false := by rfl) (hw2 : swappedStores [tg] e X.env = pure none := by rfl) (h1 : (assignEach [tg] X.env).map (·.2) = [assign tg X.env] := by rfl) :
    XB X z ct Γ (.Assign [tg] e pos :: rest) (wa wk) := fun G0 H0 D σ G H M E hw =>
  ⟨_, pss_cons (ps_asg re rg hs hw2 h1) rs, he G0 H0 σ G H _ _ E hw fun G1 H1 v y W1 S1 r g1 => hg G0 H0 σ G1 H1 v y _ (E.step W1 S1) r fun σ' E' _ => hn y G0 H0 D σ' G1 H1 M E' g1⟩
theorem xb_augAdd (i : Nat) {n : Int} {wk : Int → Prop} (hN : X.N.Nodup) (hi : X.N[i]? = some x) (hx : Loc X.env.scope x) (hΓ : Γ[i]? = some (.fz tyI n)) (he : XE X z Γ e tyI wi) (hn : ∀ y, XB X z ct (Γ.set i (.fz tyI y)) rest (wk y))
    (hf : X.fn x = true ∨ X.env.scope.names.lookup x = some .local := by first | exact .inl rfl | exact .inr rfl) :
    XB X z ct Γ (.AugAssign (.Name x p) .Add e pos :: rest) (wi fun y => wk (n + y)) := fun G0 H0 D σ G H M E hw => by
  obtain ⟨ov, eo, v, rfl, r⟩ := E.at_ hΓ
  refine ⟨_, pss_cons (ps_aug hN hi hx re (ip_add) hf) rs, v, eo, he G0 H0 σ G H _ _ E hw fun G1 H1 u y W1 S1 ry g1 => ?_⟩
  exact ⟨n, y, r, ry, hn _ G0 H0 D _ G1 H1 M ((E.step W1 S1).fz i (show tyI.rep G1 (.int (n + y)) (n + y) from rfl)) g1⟩
end
end Zk
/-! TL11: __init__, try, the law's state. -/
namespace Zk
open PySem PySem.Spec L2

section
variable {X : Cx} {z : Zs} {Γ Γ1 : List Sl} {ct : Ct} {a b c e tg iter : Expr} {es : List Expr} {rest body orelse : List Stmt} {α β γ τ ρ φ : Type} {A : Ty α} {B : Ty β} {C : Ty γ} {R : Row ρ} {Rf : Row φ} {pos p p' p2 tpos : Pos} {x m : Str} {w : Prop}
  {wa : (α → Prop) → Prop} {wb : (β → Prop) → Prop} {wl : (List α → Prop) → Prop} {wi wj wk : (Int → Prop) → Prop} {ws : (Str → Prop) → Prop}
/-! ### fields laid in __init__ -/
theorem fr_put : ∀ {G : Hp} {vs : List (Str × V)} {fs : List (Str × Fz)} {v : V} {g : Fz}, FR G vs fs → m ∉ fs.map (·.1) → g.A.rep G v g.x → FR G (putF m v vs) (fs ++ [(m, g)])
  | _, _, _, _, _, .nil, _, h => .cons ⟨rfl, h⟩ .nil
  | G, (a, u) :: vs, f :: fs, v, g, .cons r t, nm, h => by
    have e1 : a = f.1 := r.1
    have ne : a ≠ m := fun q => nm (by rw [List.map_cons]; exact List.mem_cons.mpr (.inl (by rw [← e1, q])))
    have ne' : (a == m) = false := by rw [beq_eq_false_iff_ne]; exact ne
    have ne2 : (m == a) = false := by rw [beq_eq_false_iff_ne]; exact Ne.symm ne
    have ih := fr_put (v := v) t (fun q => nm (by rw [List.map_cons]; exact List.mem_cons_of_mem _ q)) h
    show FR G (putF m v ((a, u) :: vs)) (f :: (fs ++ [(m, g)]))
    unfold putF
    first
    | rw [if_neg (by simpa using ne)]
      exact .cons r ih
    | rw [if_neg (by simpa using Ne.symm ne)]
      exact .cons r ih
theorem fr_len : ∀ {G : Hp} {vs : List (Str × V)} {fs : List (Str × Fz)}, FR G vs fs → vs.length = fs.length
  | _, _, _, .nil => rfl
  | _, _, _, .cons _ t => congrArg Nat.succ (fr_len t)
/-- self.m = e, the first time -/
theorem xb_fldNew {fs : List (Str × Fz)} {sx : Str} {sp : Pos} {q C : Addr} {wk : α → Prop} (i : Nat) (hΓ : Γ[i]? = some (.ob q C fs)) (hN : X.N[i]? = some sx) (hv : Vis X.env.scope sx) (hc : Cls X.K C) (hn : NoAttr X.K C m) (hnd : m ∉ fs.map (·.1)) (hl : fs.length < 1000)
    (he : XE X z Γ e A wa) (hr : ∀ y, XB X z ct (Γ.set i (.ob q C (fs ++ [(m, ⟨A, y⟩)]))) rest (wk y)) (hs : swapsWith e (some (.Attribute (.Name sx sp) m p')) pos.line X.env = pure false := by rfl)
    (hd : (sx == ("__debug__" : Str)) = false := by decide) (hcd : (sx == ("__classdict__" : Str)) = false := by decide) :
    XB X z ct Γ (.Assign [.Attribute (.Name sx sp) m p'] e pos :: rest) (wa wk) := fun G0 H0 D σ G H M E hw => by
  obtain ⟨ov, eo, dx, vs, rfl, r, q'⟩ := E.at_ hΓ
  refine ⟨_, pss_cons (ps_fld (pe_var hN hv hd hcd) re hs) rs, he G0 H0 σ G H _ _ E hw fun G1 H1 v y W1 S1 ry g1 => ?_⟩
  have r1 := r.step S1
  refine ⟨_, eo, q, C, dx, vs, rfl, r1.h, hc, hn, by rw [fr_len q']; exact hl, ?_⟩
  exact hr y G0 H0 D σ G1 _ M ((E.step W1 S1).mut hΓ eo rfl r1 ⟨dx, _, rfl, ⟨r1.g, r1.z, r1.h0, upd_same⟩, fr_put (FR.mono S1.g q') hnd ry⟩) g1
/-- fields as a row -/
def RowFs (Rf : Row φ) (fs : List (Str × Fz)) (y : φ) : Prop := ∀ G vs, FV G vs fs → Rf.rep G vs y
theorem rf_nil : RowFs Row.nil [] () := fun _ _ h => by cases h; rfl
theorem rf_one {y : α} : RowFs (Row.one A) [(m, ⟨A, y⟩)] y := fun _ _ h => by
  cases h with
  | cons h t => cases t; exact ⟨_, rfl, h⟩
theorem rf_cons {y : α} {fs : List (Str × Fz)} {ys : φ} (h : RowFs Rf fs ys) : RowFs (Row.cons A Rf) ((m, ⟨A, y⟩) :: fs) (y, ys) := fun G _ q => by
  cases q with
  | cons q t => exact ⟨_, _, rfl, q, h G _ t⟩
theorem xb_initEnd {q C : Addr} {ns : List Str} {fs : List (Str × Fz)} (y : φ) {k : φ → Prop} (h0 : Γ[0]? = some (.ob q C fs)) (hn : fs.map (·.1) = ns) (hR : RowFs Rf fs y)
    (hct : ct.n = fun Γ => ∃ (fs : List (Str × Fz)) (z : φ), Γ[0]? = some (.ob q C fs) ∧ fs.map (·.1) = ns ∧ (∀ G vs, FV G vs fs → Rf.rep G vs z) ∧ k z) : XB X z ct Γ [] (k y) := fun G0 H0 D σ G H M E hw =>
  ⟨_, pss_nil, M.n σ G H Γ E (by rw [hct]; exact ⟨fs, y, h0, hn, hR, hw⟩)⟩
/-! ### try around what raises nothing -/
theorem xb_tryThru {h₀ : ExceptHandler} {hs : List ExceptHandler} (hb : XB X.nox z ct Γ body w) (hf : rest = []) : XB X z ct Γ (.Try body (h₀ :: hs) [] [] pos :: rest) w := fun G0 H0 D σ G H M E hw => by
  subst hf
  refine ⟨_, pss_cons (ps_try_thru0 (rs (X := X.nox))) rs, ?_⟩
  have M' : Meets z G0 H0 { D with nx := RS X [] D } ct := ⟨fun σ' G' H' Γ' E' h => ⟨_, pss_nil, M.n σ' G' H' Γ' E' h⟩, M.b, M.c, M.r⟩
  exact hb G0 H0 _ σ G H M' E hw
/-- list(script) -/
theorem sql_up {K : PySem.W.Frag} {G H : Hp} {q : Addr} {vs : List V} (W : Wd z G H) (h : SqL K G q vs) : SqL K H q vs := h.imp (fun h => by
  rcases h with h | ⟨o, h⟩
  · exact .inl (W.of h nodl)
  · rcases W.gh _ _ h with e | ⟨_, _, e, _⟩
    · exact .inr ⟨o, e⟩
    · cases e) id
theorem xf_listZ (hm : X.mg "list" = none) {wz : (List Int → Prop) → Prop} (h : XE X z Γ a (tyZ X.K) wz) (hg : Gl X "list" := by rfl) (hs : starEach (a :: []) X.env = (false, eval a X.env) :: starEach [] X.env := by rfl) : XF X z Γ (.Call (.Name "list" p) [a] [] pos) tyI wz := fun G0 H0 σ G H k Q E hw hk =>
  ⟨_, pe_callTy call_list_of hg hm (by decide +kernel) (pa_cons re pa_nil hs) (by decide) (by decide) hs rfl, h G0 H0 σ G H _ _ E hw fun G1 H1 v xs W1 S1 ⟨q, ev, r⟩ h1 => ⟨q, _, by rw [ev], .inl (sql_up W1 r), xf_last W1 S1 (pair_ints _ _) h1 hk⟩⟩
/-! ### new lists of mixed items -/
def XN (X : Cx) (z : Zs) (Γ : List Sl) (e : Expr) {ρ : Type} (R : Row ρ) (w : (ρ → Prop) → Prop) : Prop :=
  ∀ (G0 H0 : Hp) (σ : L2.St) (G H : Hp) (k : ρ → Prop) (Q : VK), Ev z G0 H0 G H σ Γ → w k →
    (∀ G' H' q vs y, Wd z G' H' → Stp z G H G' H' → H q = none → G' q = none → H' q = some (.lst vs) → R.rep G' vs y → k y → Q (.ref q) H') → RE X e σ H Q
theorem xn_mix {wr : (ρ → Prop) → Prop} (h : XA X z Γ es R wr) (hn : R.n ≤ sizeLine := by show _ ≤ _; decide) : XN X z Γ (.List es pos) R wr := fun G0 H0 σ G H k Q E hw hk =>
  ⟨_, pe_lst ra, h G0 H0 σ G H _ _ E hw fun G1 H1 vs x W1 S1 r1 h1 => ⟨by rw [R.len r1]; exact hn, fun q nq =>
    hk G1 _ q vs x (W1.own nq) (S1.trans (Stp.own nq)) (by
      cases e : H q with
      | none => rfl
      | some o =>
        obtain ⟨o', e'⟩ := S1.t q o e
        rw [nq] at e'
        cases e') (W1.gh.free nq) upd_same r1 h1⟩⟩
/-- name = a new list of mixed items that stays one's own -/
theorem xb_newMx (i : Nat) {wr : (ρ → Prop) → Prop} {wk : ρ → Prop} (hN : X.N.Nodup) (hi : X.N[i]? = some x) (hx : Loc X.env.scope x) (he : XN X z Γ e R wr) (hn : ∀ q y, XB X z ct (Γ.set i (.mx q R y)) rest (wk y))
    (hs : swapsWith e (some (.Name x p')) pos.line X.env = pure false := by rfl) (hf : X.fn x = true ∨ X.env.scope.names.lookup x = some .local := by first | exact .inl rfl | exact .inr rfl) :
    XB X z ct Γ (.Assign [.Name x p'] e pos :: rest) (wr wk) := fun G0 H0 D σ G H M E hw =>
  ⟨_, pss_cons (ps_set hN hi hx re hs hf) rs, he G0 H0 σ G H wk _ E hw fun G1 H1 q vs y W1 S1 nq gq hq r h1 => hn q y G0 H0 D _ G1 H1 M (E.takeOwn W1 S1 i nq ⟨vs, rfl, ⟨gq, E.znew nq, E.h0new nq, hq⟩, r⟩) h1⟩
/-- a def whose answer is a new list of mixed items -/
def spN (R : Row ρ) (Rf : Row φ) (w : ρ → (φ → Prop) → Prop) : Sp := fun vs H Q _ => ∃ (G : Hp) (x : ρ) (k : φ → Prop), Wd Z0 G H ∧ R.rep G vs x ∧ w x k ∧
  ∀ G' H' q us y, Wd Z0 G' H' → Stp Z0 G H G' H' → H q = none → G' q = none → H' q = some (.lst us) → Rf.rep G' us y → k y → Q (.ref q) H'
theorem xn_call {n : Nat} {wr : (ρ → Prop) → Prop} {wf : ρ → (φ → Prop) → Prop} (F : Cle X.prog X.w X.K X.mg X.base x n (spN R Rf wf)) (hr : Room n X.A) (ha : XA X z Γ (e :: es) R wr) (hg : Gl X x := by rfl)
    (hs : starEach (e :: es) X.env = (false, eval e X.env) :: starEach es X.env := by rfl) (hpl : (backTo pos (starEach es X.env)).any (·.1) = false := by rfl) (hdb : (x == ("__debug__" : Str)) = false := by decide) :
    XN X z Γ (.Call (.Name x p) (e :: es) [] pos) Rf (fun k => wr fun y => wf y k) := fun G0 H0 σ G H k Q E hw hk => by
  obtain ⟨f, fd, ps, F, hm, hkp, hb⟩ := F
  refine ⟨_, pe_call F hr hg hm hkp hb .nil pass0 ra hdb hs hpl, ha G0 H0 σ G H _ _ E hw fun G1 H1 vs y W1 S1 r h1 => ?_⟩
  show spN R Rf wf (vs ++ []) H1 Q E0
  rw [List.append_nil]
  exact ⟨G1, y, k, W1.z0, r, h1, fun G' H' q us y' W' S' nq gq hq r' q' => hk G' H' q us y' (W1.after0 W' S') (S1.trans S'.lift) (by
    cases e : H q with
    | none => rfl
    | some o =>
      obtain ⟨o', e'⟩ := S1.t q o e
      rw [nq] at e'
      cases e') gq hq r' q'⟩
/-- one's own list of mixed items becomes the state -/
theorem xb_st (i : Nat) {I : φ → Prop} {q : Addr} {u : φ} (hΓ : Γ[i]? = some (.mx q Rf u)) (hn : XB X ((zmR Rf I).at_ q) ct (Γ.set i .st) rest w)
    (hcn : ∀ Γ Γ', ct.n Γ → ct.n Γ') (hcb : ∀ Γ Γ', ct.b Γ → ct.b Γ') (hcc : ∀ Γ Γ', ct.c Γ → ct.c Γ') (hcr : ∀ Γ Γ' y, ct.r Γ y → ct.r Γ' y) : XB X Z0 ct Γ rest (I u ∧ w) := fun G0 H0 D σ G H M E ⟨hI, hw⟩ => by
  obtain ⟨ov, eo, vs, rfl, r, q'⟩ := E.at_ hΓ
  have back : ∀ {σ' : L2.St} {G' H' : Hp} {Γ' : List Sl}, Ev ((zmR Rf I).at_ q) G0 H0 G' H' σ' Γ' → Ev Z0 G0 H0 G' H' σ' (List.replicate σ'.length .no) := fun {σ' G' H' Γ'} E' => by
    refine ⟨E'.wd.z0, ⟨E'.base.g, fun a o _ h => E'.base.h a o (fun z => ?_) h, E'.base.n, E'.base.t⟩, by rw [List.length_replicate], fun j S o h1 h2 => ?_, fun j k S T o1 o2 l hjk h1 h2 _ _ h3 h4 => ?_⟩
    · have e : q = a := Option.some.inj z
      subst e
      rw [r.h0] at h
      cases h
    · have e := List.eq_of_mem_replicate (List.mem_of_getElem? h1)
      subst e
      trivial
    · have e := List.eq_of_mem_replicate (List.mem_of_getElem? h1)
      subst e
      exact h3
  have E1 : Ev ((zmR Rf I).at_ q) G0 H0 G H σ (Γ.set i .st) := by
    refine ⟨⟨E.wd.gh, fun s es => ?_⟩, E.base.lift, by rw [List.length_set]; exact E.len, fun j S o h1 h2 => ?_, fun j k S T o1 o2 l hjk h1 h2 h3 h4 h5 h6 => ?_⟩
    · have e : q = s := Option.some.inj es
      subst e
      exact ⟨r.g, _, r.h, vs, u, rfl, q', hI⟩
    · by_cases hj : i = j
      · subst hj
        rw [← get_set h1]
        rw [eo] at h2
        cases h2
        exact ⟨q, rfl, rfl⟩
      · rw [List.getElem?_set_ne hj] at h1
        have g := E.sl j S o h1 h2
        have nz : ∀ {l : Addr}, S.fp o l → ((zmR Rf I).at_ q).at_ ≠ some l := fun {l} hf es => by
          have e : q = l := Option.some.inj es
          subst e
          exact E.ap i j _ S _ o q hj hΓ h1 eo h2 rfl hf
        cases S with
        | no => trivial
        | fz A x => exact g
        | st => obtain ⟨_, e, _⟩ := g; cases e
        | ml A xs => obtain ⟨l, vs, e, r, y⟩ := g; exact ⟨l, vs, e, ⟨r.g, nz e, r.h0, r.h⟩, y⟩
        | md A xs => obtain ⟨l, vs, e, r, y⟩ := g; exact ⟨l, vs, e, ⟨r.g, nz e, r.h0, r.h⟩, y⟩
        | ob l C fs => obtain ⟨dx, vs, e, r, y⟩ := g; exact ⟨dx, vs, e, ⟨r.g, nz e, r.h0, r.h⟩, y⟩
        | mx l R x => obtain ⟨vs, e, r, y⟩ := g; exact ⟨vs, e, ⟨r.g, nz e, r.h0, r.h⟩, y⟩
        | rg R R' n c A x => obtain ⟨v, e, r, k, y, f⟩ := g; exact ⟨v, e, r, k, fun a u ha => ⟨(y a u ha).g, nz (by show R' a ≠ none; rw [ha]; intro z; cases z), (y a u ha).h0, (y a u ha).h⟩, f⟩
    · by_cases hj : i = j
      · subst hj
        rw [← get_set h1] at h5
        exact h5
      · by_cases hk : i = k
        · subst hk
          rw [← get_set h2] at h6
          exact h6
        · rw [List.getElem?_set_ne hj] at h1
          rw [List.getElem?_set_ne hk] at h2
          exact E.ap j k S T o1 o2 l hjk h1 h2 h3 h4 h5 h6
  refine hn G0 H0 D σ G H ⟨fun σ' G' H' Γ' E' h => M.n σ' G' H' _ (back E') (hcn _ _ h), fun σ' G' H' Γ' E' h => M.b σ' G' H' _ (back E') (hcb _ _ h), fun σ' G' H' Γ' E' h => M.c σ' G' H' _ (back E') (hcc _ _ h),
    fun σ' G' H' Γ' v y E' r' h => M.r σ' G' H' _ v y (back E') r' (hcr _ _ y h)⟩ E1 hw
end
/-- return e, within the state's def -/
theorem xb_retM {X : Cx} {z : Zs} {Γ : List Sl} {ct : Ct} {e : Expr} {rest : List Stmt} {pos : Pos} {φ : Type} {Rf : Row φ} {I : φ → Prop} {st : Addr} {u' : φ} {k : ct.β → Prop} {wb : (ct.β → Prop) → Prop} (h0 : Γ[0]? = some (.mx st Rf u')) (hct : ct.r = fun Γ z => ∃ u', Γ[0]? = some (.mx st Rf u') ∧ I u' ∧ k z) (he : XE X z Γ e ct.B wb) :
    XB X z ct Γ (.Return (some e) pos :: rest) (wb fun y => I u' ∧ k y) := fun G0 H0 D σ G H M E hw =>
  ⟨_, pss_cons (ps_ret re) rs, he G0 H0 σ G H _ _ E hw fun G1 H1 v y W1 S1 r h1 => M.r σ G1 H1 Γ v y (E.step W1 S1) r (by rw [hct]; exact ⟨u', h0, h1⟩)⟩
section
variable {P : Program} {w : World} {K : PySem.W.Frag} {mg : Str → Option Value} {base : Heap} {ρ β φ : Type} {R : Row ρ} {B : Ty β} {Rf : Row φ} {x qual : Str} {params : Arguments} {e : Expr} {rpos : Pos} {scope : Scope} {f : Addr} {fd : FuncData} {N ps : List Str} {n : Nat}
  {fsl : ρ → List Sl} {wf : ρ → (φ → Prop) → Prop}
/-- def f(..): return [..] -/
theorem cle_N {Γ0 : ρ → List Sl} (F : FunD K x x params [.Return (some e) rpos] scope [] [] f fd) (hm : mg x = some (.ref f)) (S : FnScope N ps scope) (hb : BindOk (qual := x) x params [.Return (some e) rpos] scope ps) (hn : R.n = ps.length) (hN : R.n ≤ N.length) (q : RowSl R fsl) (hΓ : ∀ y, Γ0 y = fsl y ++ List.replicate (N.length - R.n) .no)
    (hB : ∀ (cdv : Value) (A : Around) (outer : List Env) (s : Shared) (H : Hp) (E : XK), Room n (A.deeper (PyProof.Rows.envOfC x scope s.heap.objs.size f cdv)) → ∀ (y : ρ) (k : φ → Prop), XN (cxOf CX0 P w K mg base N x scope f cdv A outer s H E).nox Z0 (Γ0 y) e Rf (wf y)) : Cle P w K mg base x (n + 1) (spN R Rf wf) := by
  refine ⟨f, fd, ps, F.ok S (fun vs H Q E h => ?_) (fun cdv A outer s H vs Q E hr h => ?_), hm, F.kp, F.bindsN hb⟩
  · obtain ⟨G, y, k, _, r, _⟩ := h
    rw [R.len r, hn]
  · obtain ⟨G, y, k, W, r, hw, hk⟩ := h
    refine ⟨_, PSs.nox (pss_cons (ps_ret re) pss_nil), hB cdv A outer s H E hr y k G H _ G H k _ (by rw [hΓ]; exact ev_start q W r hN) hw fun G' H' q' vs' y' W' S' nq gq hq r' k' => hk G' H' q' vs' y' W' S' nq gq hq r' k'⟩
end
end Zk
/-! TL12: regions: lists within lists that stay one's own, are handed out, and are changed afterwards. -/
namespace Zk
open PySem PySem.Spec L2

/-! ### without the state -/
def noSt (Γ : List Sl) : List Sl := Γ.map fun S => match S with
  | .st => .no
  | S => S
theorem noSt_at {Γ : List Sl} {i : Nat} {S : Sl} (h : (noSt Γ)[i]? = some S) : ∃ T, Γ[i]? = some T ∧ (S = .no ∨ (S = T ∧ T ≠ .st)) := by
  unfold noSt at h
  rw [List.getElem?_map] at h
  cases q : Γ[i]? with
  | none => rw [q] at h; cases h
  | some T =>
    rw [q] at h
    have h := Option.some.inj h
    refine ⟨T, rfl, ?_⟩
    cases T <;> first | exact .inl h.symm | exact .inr ⟨h.symm, fun z => nomatch z⟩
/-- all but the state -/
def offSt (z : Zs) (H : Hp) : Hp := fun a => open Classical in if z.at_ = some a then none else H a
theorem offSt_at {z : Zs} {H : Hp} {a : Addr} {u : HO} (h : offSt z H a = some u) : z.at_ ≠ some a ∧ H a = some u := by
  unfold offSt at h
  split at h
  · cases h
  · exact ⟨by assumption, h⟩
theorem Ev.z0 {z : Zs} {G0 H0 G H : Hp} {σ : L2.St} {Γ : List Sl} (E : Ev z G0 H0 G H σ Γ) : Ev Z0 G (offSt z H0) G H σ (noSt Γ) := by
  have mv : ∀ {l : Addr} {w : HO}, Own z H0 G H l w → Own Z0 (offSt z H0) G H l w := fun {l w} r => ⟨r.g, (fun q => nomatch q), (by
    cases q : offSt z H0 l with
    | none => rfl
    | some u =>
      have := (offSt_at q).2
      rw [r.h0] at this
      cases this), r.h⟩
  refine ⟨E.wd.z0, ⟨Same.refl _, fun a o _ e => E.base.h a o (offSt_at e).1 (offSt_at e).2, fun _ _ _ e => e, fun a o e => E.base.t a o (offSt_at e).2⟩, by unfold noSt; rw [List.length_map]; exact E.len, fun i S o h1 h2 => ?_, fun i j S T o1 o2 l hij h1 h2 h3 h4 h5 h6 => ?_⟩
  · obtain ⟨T, h3, e⟩ := noSt_at h1
    rcases e with e | ⟨e, ns⟩
    · subst e; trivial
    · subst e
      have q := E.sl i S o h3 h2
      cases S with
      | no => trivial
      | fz A x => exact q
      | st => exact absurd rfl ns
      | ml A xs => obtain ⟨l, vs, e, r, y⟩ := q; exact ⟨l, vs, e, mv r, y⟩
      | md A xs => obtain ⟨l, vs, e, r, y⟩ := q; exact ⟨l, vs, e, mv r, y⟩
      | ob l C fs => obtain ⟨dx, vs, e, r, y⟩ := q; exact ⟨dx, vs, e, mv r, y⟩
      | mx l R x => obtain ⟨vs, e, r, y⟩ := q; exact ⟨vs, e, mv r, y⟩
      | rg R R' n c A x => obtain ⟨v, e, r, k, y, f⟩ := q; exact ⟨v, e, r, k, fun a u ha => mv (y a u ha), f⟩
  · obtain ⟨S', e1, e2⟩ := noSt_at h1
    obtain ⟨T', e3, e4⟩ := noSt_at h2
    rcases e2 with e2 | ⟨e2, _⟩
    · subst e2; exact h5
    · rcases e4 with e4 | ⟨e4, _⟩
      · subst e4; exact h6
      · subst e2 e4
        exact E.ap i j S T o1 o2 l hij e1 e3 h3 h4 h5 h6

/-! ### new regions -/
structure Nw (R H G' H' : Hp) : Prop where
  nw : ∀ a u, R a = some u → H a = none
  g : ∀ a u, R a = some u → G' a = none
  h : ∀ a u, R a = some u → H' a = some u
  l : ∀ a u, R a = some u → ∃ vs, u = .lst vs
def XR (X : Cx) (z : Zs) (Γ : List Sl) (e : Expr) {α : Type} (A : Ty2 α) (w : (α → Prop) → Prop) : Prop :=
  ∀ (G0 H0 : Hp) (σ : L2.St) (G H : Hp) (k : α → Prop) (Q : VK), Ev z G0 H0 G H σ Γ → w k → (∀ G' H' R v y, Wd z G' H' → Stp z G H G' H' → Nw R H G' H' → A.rep G' R v y → k y → Q v H') → RE X e σ H Q
def XRA (X : Cx) (z : Zs) (Γ : List Sl) (es : List Expr) {ρ : Type} (A : Row2 ρ) (w : (ρ → Prop) → Prop) : Prop :=
  ∀ (G0 H0 : Hp) (σ : L2.St) (G H : Hp) (k : ρ → Prop) (Q : List V → Hp → Prop), Ev z G0 H0 G H σ Γ → w k → (∀ G' H' R v y, Wd z G' H' → Stp z G H G' H' → Nw R H G' H' → A.rep G' R v y → k y → Q v H') → RA X es σ H Q
theorem stp_none {z : Zs} {G H G' H' : Hp} (S : Stp z G H G' H') {q : Addr} (h : H' q = none) : H q = none := by
  cases e : H q with
  | none => rfl
  | some o =>
    obtain ⟨o', e'⟩ := S.t q o e
    rw [h] at e'
    cases e'
def noHp : Hp := fun _ => none
theorem Nw.nil {H G' H' : Hp} : Nw noHp H G' H' := ⟨(fun _ _ h => nomatch h), (fun _ _ h => nomatch h), (fun _ _ h => nomatch h), (fun _ _ h => nomatch h)⟩
theorem Nw.join {z : Zs} {G H G1 H1 G2 H2 R1 R2 : Hp} (W1 : Wd z G1 H1) (S1 : Stp z G H G1 H1) (S2 : Stp z G1 H1 G2 H2) (a : Nw R1 H G1 H1) (hz : ∀ s, z.at_ = some s → H s ≠ none) (b : Nw R2 H1 G2 H2) : Nw (jn R1 R2) H G2 H2 ∧ Same R1 (jn R1 R2) ∧ Same R2 (jn R1 R2) := by
  have nz : ∀ q u, R1 q = some u → z.at_ ≠ some q := fun q u e es => hz q es (a.nw q u e)
  have dj : ∀ q u, R2 q = some u → R1 q = none := fun q u e => by
    cases p : R1 q with
    | none => rfl
    | some w =>
      have := a.h q w p
      rw [b.nw q u e] at this
      cases this
  have at_ : ∀ q u, jn R1 R2 q = some u → R1 q = some u ∨ R2 q = some u := fun q u e => by
    unfold jn at e
    cases p : R2 q with
    | none => rw [p] at e; exact .inl e
    | some w => rw [p] at e; exact .inr e
  refine ⟨⟨fun q u e => ?_, fun q u e => ?_, fun q u e => ?_, fun q u e => (at_ q u e).elim (a.l q u) (b.l q u)⟩, jn_same dj, fun q u e => jn_in e⟩
  · rcases at_ q u e with e | e
    · exact a.nw q u e
    · exact stp_none S1 (b.nw q u e)
  · rcases at_ q u e with e | e
    · exact S2.n q u (a.h q u e) (a.g q u e)
    · exact b.g q u e
  · rcases at_ q u e with e | e
    · exact S2.h q u (nz q u e) (a.h q u e)
    · exact b.h q u e
theorem Nw.add {z : Zs} {G H G1 H1 R1 : Hp} {q : Addr} {ws : List V} (W1 : Wd z G1 H1) (S1 : Stp z G H G1 H1) (a : Nw R1 H G1 H1) (nq : H1 q = none) : Nw (upd R1 q (.lst ws)) H G1 (upd H1 q (.lst ws)) ∧ Same R1 (upd R1 q (.lst ws)) := by
  have r1 : R1 q = none := by
    cases p : R1 q with
    | none => rfl
    | some w =>
      have := a.h q w p
      rw [nq] at this
      cases this
  have at_ : ∀ p u, upd R1 q (.lst ws) p = some u → (p = q ∧ u = .lst ws) ∨ (p ≠ q ∧ R1 p = some u) := fun p u e => by
    by_cases h : p = q
    · subst h; rw [upd_same] at e; exact .inl ⟨rfl, (Option.some.inj e).symm⟩
    · rw [upd_ne h] at e; exact .inr ⟨h, e⟩
  refine ⟨⟨fun p u e => ?_, fun p u e => ?_, fun p u e => ?_, fun p u e => (at_ p u e).elim (fun h => ⟨ws, h.2⟩) fun h => a.l p u h.2⟩, same_new r1⟩
  · rcases at_ p u e with ⟨e1, _⟩ | ⟨_, e⟩
    · rw [e1]; exact stp_none S1 nq
    · exact a.nw p u e
  · rcases at_ p u e with ⟨e1, _⟩ | ⟨_, e⟩
    · rw [e1]; exact W1.gh.free nq
    · exact a.g p u e
  · rcases at_ p u e with ⟨e1, e2⟩ | ⟨h, e⟩
    · rw [e1, e2, upd_same]
    · rw [upd_ne h]; exact a.h p u e
theorem Ev.stH {z : Zs} {G0 H0 G H : Hp} {σ : L2.St} {Γ : List Sl} (E : Ev z G0 H0 G H σ Γ) : ∀ s, z.at_ = some s → H s ≠ none := fun s e h => by
  obtain ⟨_, o, e2, _⟩ := E.wd.zk s e
  rw [h] at e2
  cases e2

section
variable {X : Cx} {z : Zs} {Γ Γ1 : List Sl} {ct : Ct} {a b c e tg iter : Expr} {es : List Expr} {rest body orelse : List Stmt} {α β γ τ ρ φ : Type} {A : Ty α} {A2 : Ty2 α} {B2 : Ty2 β} {B : Ty β} {R2 : Row2 ρ} {pos p p' p2 : Pos} {x m : Str} {w : Prop}
  {wa : (α → Prop) → Prop} {wb : (β → Prop) → Prop} {wl : (List α → Prop) → Prop} {wi wj wk : (Int → Prop) → Prop} {wr : (ρ → Prop) → Prop}
theorem xr_old (h : XE X z Γ e A wa) : XR X z Γ e (t2N A) wa := fun G0 H0 σ G H k Q E hw hk => h G0 H0 σ G H k Q E hw fun G1 H1 v y W1 S1 r h1 => hk G1 H1 noHp v y W1 S1 .nil r h1
theorem xra_nil : XRA X z Γ [] Row2.nil (fun k => k ()) := fun G0 H0 σ G H k Q E hw hk => ⟨_, pa_nil, hk G H noHp [] () E.wd (Stp.refl _ _ _) .nil rfl hw⟩
theorem xra_one (h : XR X z Γ e A2 wa) (hs : starEach (e :: []) X.env = (false, eval e X.env) :: starEach [] X.env := by rfl) : XRA X z Γ [e] (Row2.one A2) wa := fun G0 H0 σ G H k Q E hw hk =>
  ⟨_, pa_cons re pa_nil hs, h G0 H0 σ G H _ _ E hw fun G1 H1 R v x W1 S1 n1 r1 h1 => hk G1 H1 R [v] x W1 S1 n1 ⟨v, rfl, r1⟩ h1⟩
theorem xra_cons (h : XR X z Γ e A2 wa) (hr : XRA X z Γ es R2 wr) (hs : starEach (e :: es) X.env = (false, eval e X.env) :: starEach es X.env := by rfl) : XRA X z Γ (e :: es) (Row2.cons A2 R2) (fun k => wa fun x => wr fun y => k (x, y)) := fun G0 H0 σ G H k Q E hw hk =>
  ⟨_, pa_cons re ra hs, h G0 H0 σ G H _ _ E hw fun G1 H1 R1 v x W1 S1 n1 r1 h1 => hr G0 H0 σ G1 H1 _ _ (E.step W1 S1) h1 fun G2 H2 R2' vs y W2 S2 n2 r2 h2 => by
    obtain ⟨n3, s1, s2⟩ := Nw.join W1 S1 S2 n1 E.stH n2
    exact hk G2 H2 _ (v :: vs) (x, y) W2 (S1.trans S2) n3 ⟨v, vs, rfl, A2.mono S2.g s1 r1, R2.mono (Same.refl _) s2 r2⟩ h2⟩
theorem xr_mix (h : XRA X z Γ es R2 wr) (hl : ∀ G R vs x, R2.rep G R vs x → vs.length ≤ sizeLine) : XR X z Γ (.List es pos) (t2M R2) wr := fun G0 H0 σ G H k Q E hw hk =>
  ⟨_, pe_lst ra, h G0 H0 σ G H _ _ E hw fun G1 H1 R1 vs x W1 S1 n1 r1 h1 => ⟨hl _ _ _ _ r1, fun q nq => by
    obtain ⟨n2, s2⟩ := n1.add (ws := vs) W1 S1 nq
    exact hk G1 _ _ _ x (W1.own nq) (S1.trans (Stp.own nq)) n2 ⟨q, vs, rfl, upd_same, R2.mono (Same.refl _) s2 r1⟩ h1⟩⟩
theorem r2_len {k : Nat} (h : ∀ G R vs x, R2.rep G R vs x → vs.length = k) (hk : k ≤ sizeLine) : ∀ G R vs x, R2.rep G R vs x → vs.length ≤ sizeLine := fun G R vs x r => by rw [h G R vs x r]; exact hk
theorem rl_nil : ∀ G R vs x, Row2.nil.rep G R vs x → vs.length = 0 := fun G R vs x h => by rw [show vs = [] from h]; rfl
theorem rl_one : ∀ G R vs x, (Row2.one A2).rep G R vs x → vs.length = 1 := fun G R vs x ⟨v, h, _⟩ => by rw [h]; rfl
theorem rl_cons {k : Nat} (h : ∀ G R vs x, R2.rep G R vs x → vs.length = k) : ∀ G R vs x, (Row2.cons A2 R2).rep G R vs x → vs.length = k + 1 := fun G R vs x ⟨v, r, e, _, q⟩ => by rw [e, List.length_cons, h G R r _ q]
/-- a new list of old things -/
theorem xr_f (h : XF X z Γ e A wl) : XR X z Γ e (t2L (t2N A)) wl := fun G0 H0 σ G H k Q E hw hk => h G0 H0 σ G H k Q E hw fun G1 H1 q vs xs W1 S1 nq gq hq r h1 => by
  have e1 : ∀ a u, (upd noHp q (.lst vs)) a = some u → a = q ∧ u = .lst vs := fun a u e => by
    by_cases hh : a = q
    · subst hh; rw [upd_same] at e; exact ⟨rfl, (Option.some.inj e).symm⟩
    · rw [upd_ne hh] at e; cases e
  exact hk G1 H1 _ _ xs W1 S1 ⟨fun a u e => by rw [(e1 a u e).1]; exact nq, fun a u e => by rw [(e1 a u e).1]; exact gq, fun a u e => by rw [(e1 a u e).1, (e1 a u e).2]; exact hq, fun a u e => ⟨vs, (e1 a u e).2⟩⟩ ⟨q, vs, rfl, upd_same, r⟩ h1
theorem xr_nil : XR X z Γ (.List [] pos) (t2L A2) (fun k => k []) := fun G0 H0 σ G H k Q E hw hk =>
  ⟨_, pe_lst pa_nil, ⟨Nat.zero_le _, fun q nq => by
    obtain ⟨n2, s2⟩ := (Nw.nil (H := H) (G' := G) (H' := H)).add (ws := []) E.wd (Stp.refl _ _ _) nq
    exact hk G _ _ _ [] (E.wd.own nq) (Stp.own nq) n2 ⟨q, [], rfl, upd_same, .nil⟩ hw⟩⟩
/-- a comprehension of new things, no test -/
def WLr (xs : List α) (we : α → (β → Prop) → Prop) (wk : List β → Prop) : Prop :=
  xs.length < sizeLine ∧ ∃ I : Nat → List β → Prop, I 0 [] ∧ (∀ i x acc, xs[i]? = some x → I i acc → we x fun y => I (i + 1) (acc ++ [y])) ∧ ∀ acc, I xs.length acc → wk acc
theorem WLr_map {xs : List α} {f : α → β} {k : List β → Prop} (hl : xs.length < sizeLine) (h : k (xs.map f)) : WLr xs (fun x kk => kk (f x)) k :=
  ⟨hl, fun i acc => acc = (xs.take i).map f, by simp, fun i x acc hx hI => by
    show acc ++ [f x] = _
    rw [hI, List.take_add_one, hx]
    simp, fun acc hI => by rw [hI, List.take_length]; exact h⟩
theorem xr_imp {w w' : (α → Prop) → Prop} (h : XR X z Γ e A2 w) (f : ∀ k, w' k → w k) : XR X z Γ e A2 w' := fun G0 H0 σ G H k Q E hw hk => h G0 H0 σ G H k Q E (f k hw) hk
section
variable {elt : Expr} {scope : Scope} {own : List (Str × Nat)} {is : List Nat} {ΓT : α → List Sl} {we : α → (β → Prop) → Prop}
end
/-- name = a new region -/
theorem xb_newRg (i : Nat) {wk : α → Prop} (hN : X.N.Nodup) (hi : X.N[i]? = some x) (hx : Loc X.env.scope x) (he : XR X z Γ e A2 wa) (hn : ∀ R y, XB X z ct (Γ.set i (.rg R R true 0 A2 y)) rest (wk y))
    (hs : swapsWith e (some (.Name x p')) pos.line X.env = pure false := by rfl) (hf : X.fn x = true ∨ X.env.scope.names.lookup x = some .local := by first | exact .inl rfl | exact .inr rfl) :
    XB X z ct Γ (.Assign [.Name x p'] e pos :: rest) (wa wk) := fun G0 H0 D σ G H M E hw =>
  ⟨_, pss_cons (ps_set hN hi hx re hs hf) rs, he G0 H0 σ G H wk _ E hw fun G1 H1 R v y W1 S1 n1 r h1 => hn R y G0 H0 D _ G1 H1 M ((E.step W1 S1).setOwn i (S := .rg R R true 0 A2 y) (o := some v)
    ⟨v, rfl, r, Skel.refl R n1.l, fun a u ha => ⟨n1.g a u ha, E.znew (n1.nw a u ha), E.h0new (n1.nw a u ha), n1.h a u ha⟩, fun _ => FixL.refl R v⟩ fun j T o' l hj h1 h2 h3 h4 => by
      have h3 : R l ≠ none := h3
      obtain ⟨u, o⟩ := (E.sl j T _ h1 h2).tracked h4
      cases e : R l with
      | none => exact h3 e
      | some w =>
        have := n1.nw l w e
        rw [o.h] at this
        cases this) h1⟩

/-! ### handed out -/
/-- data without lists -/
class NoL (B : Ty β) : Prop where
  nl : ∀ {G G' : Hp} {v : V} {y : β}, (∀ a u, G a = some u → (∀ vs, u ≠ .lst vs) → G' a = some u) → B.rep G v y → B.rep G' v y
class NoLR (R : Row ρ) : Prop where
  nl : ∀ {G G' : Hp} {v : List V} {y : ρ}, (∀ a u, G a = some u → (∀ vs, u ≠ .lst vs) → G' a = some u) → R.rep G v y → R.rep G' v y
instance : NoL tyI := ⟨fun _ h => h⟩
instance : NoL tyB := ⟨fun _ h => h⟩
instance : NoL tyS := ⟨fun _ h => h⟩
instance : NoL tyU := ⟨fun _ h => h⟩
instance [n : NoL B] : NoL (tyP B) := ⟨fun s ⟨a, vs, e, r, p⟩ => ⟨a, vs, e, s _ _ r (fun _ => by intro z; cases z), Paired.mono (fun _ _ => n.nl s) p⟩⟩
instance [n : NoL B] : NoL (tyN B) := ⟨fun {_ _ _ y} s h => match y, h with
  | none, h => h
  | some _, h => n.nl s h⟩
instance {R : Row ρ} [n : NoLR R] : NoL (tyT R) := ⟨fun s ⟨a, vs, e, r, p⟩ => ⟨a, vs, e, s _ _ r (fun _ => by intro z; cases z), n.nl s p⟩⟩
instance [n : NoL B] : NoL (tyD B) := ⟨fun s ⟨a, vs, e, r, p⟩ => ⟨a, vs, e, s _ _ r (fun _ => by intro z; cases z), Paired.mono (fun _ _ q => ⟨q.1, n.nl s q.2⟩) p⟩⟩
instance {C : Addr} {ns : List Str} {R : Row ρ} [n : NoLR R] : NoL (tyO C ns R) := ⟨fun s ⟨p, dx, vs, e, r, q⟩ => ⟨p, dx, vs, e, s _ _ r (fun _ => by intro z; cases z), n.nl s q⟩⟩
instance : NoLR Row.nil := ⟨fun _ h => h⟩
instance [n : NoL B] : NoLR (Row.one B) := ⟨fun s ⟨v, e, r⟩ => ⟨v, e, n.nl s r⟩⟩
instance {R : Row ρ} [n : NoL B] [m : NoLR R] : NoLR (Row.cons B R) := ⟨fun s ⟨v, r, e, h, q⟩ => ⟨v, r, e, n.nl s h, m.nl s q⟩⟩
/-- the heap without a region -/
def off (R G : Hp) : Hp := fun a => match R a with
  | some _ => none
  | none => G a
theorem off_at {R G : Hp} {a : Addr} {u : HO} (h : off R G a = some u) : R a = none ∧ G a = some u := by
  unfold off at h
  cases q : R a with
  | none => rw [q] at h; exact ⟨rfl, h⟩
  | some w => rw [q] at h; cases h
theorem off_none {R G : Hp} {a : Addr} {u : HO} (h : R a = some u) : off R G a = none := by unfold off; rw [h]
theorem off_some {R G : Hp} {a : Addr} {u : HO} (h : R a = none) (g : G a = some u) : off R G a = some u := by unfold off; rw [h]; exact g
def OnlyL (R : Hp) : Prop := ∀ a u, R a = some u → ∃ vs, u = .lst vs
/-- what runs with the region frozen leaves nothing of it behind -/
theorem rg_back {G0 H0 G H G1 H1 R : Hp} {σ : L2.St} {j : Nat} {n : Bool} {c : Nat} {y : α} (E : Ev z G0 H0 G H σ Γ) (hj : Γ[j]? = some (.rg R R n c A2 y)) (W1 : Wd Z0 G1 H1) (S1 : Stp Z0 (jn G R) H G1 H1) :
    Wd z (off R G1) H1 ∧ Stp z G H (off R G1) H1 := by
  obtain ⟨ov, eo, v, rfl, r, k, q, f⟩ := E.at_ hj
  have sg : Same G (off R G1) := fun a u e => by
    have rn : R a = none := by
      cases p : R a with
      | none => rfl
      | some w =>
        have := (q a w p).g
        rw [e] at this
        cases this
    exact off_some rn (S1.g a u (jn_same (fun a u h => (q a u h).g) a u e))
  refine ⟨⟨fun b u e => W1.gh b u (off_at e).2, fun s es => ?_⟩, sg, fun a o _ h => S1.h a o (fun q => nomatch q) h, fun a o h g => ?_, S1.t⟩
  · obtain ⟨h1, o, h2, h3⟩ := E.wd.zk s es
    have g1 : jn G R s = none := by
      unfold jn
      cases p : R s with
      | none => exact h1
      | some w => exact absurd es (q s w p).z
    refine ⟨?_, o, S1.h s o (fun q => nomatch q) h2, z.mono sg h3⟩
    unfold off
    cases p : R s with
    | none => exact S1.n s o h2 g1
    | some w => rfl
  · unfold off
    cases p : R a with
    | none =>
      refine S1.n a o h ?_
      unfold jn
      rw [p]
      exact g
    | some w => rfl
/-- name = e, that reads a region as frozen, answer without lists -/
theorem xb_callRg (i j : Nat) {R : Hp} {n : Bool} {c : Nat} {y : α} {wk : β → Prop} [nl : NoL B] (hj : Γ[j]? = some (.rg R R n c A2 y)) (hij : i ≠ j) (hN : X.N.Nodup) (hi : X.N[i]? = some x) (hx : Loc X.env.scope x) (he : XE X Z0 (noSt (Γ.set j (.fz A2.T y))) e B wb)
    (hn : ∀ y', XB X z ct (Γ.set i (.fz B y')) rest (wk y'))
    (hs : swapsWith e (some (.Name x p')) pos.line X.env = pure false := by rfl) (hf : X.fn x = true ∨ X.env.scope.names.lookup x = some .local := by first | exact .inl rfl | exact .inr rfl) :
    XB X z ct Γ (.Assign [.Name x p'] e pos :: rest) (wb wk) := fun G0 H0 D σ G H M E hw => by
  obtain ⟨ov, eo, v, rfl, r, k, q, f⟩ := E.at_ hj
  obtain ⟨sg, E2⟩ := E.freezeD (D := R) (S' := .fz A2.T y) hj eo (fun p hp => hp) q rfl ⟨v, rfl, A2.to (fun a u e => (q a u e).g) r⟩
  refine ⟨_, pss_cons (ps_set hN hi hx re hs hf) rs, he _ _ σ _ H wk _ E2.z0 hw fun G1 H1 u y1 W1 S1 ru h1 => ?_⟩
  obtain ⟨W, S⟩ := rg_back E hj W1 S1
  refine hn y1 G0 H0 D _ _ H1 M ((E.step W S).fz i (NoL.nl (fun a u e hu => ?_) ru)) h1
  have rn : R a = none := by
    cases p : R a with
    | none => rfl
    | some w =>
      obtain ⟨vs, ew⟩ := k.only a w p
      have g1 : G1 a = some w := S1.g a w (jn_in p)
      rw [e] at g1
      exact absurd ((Option.some.inj g1).trans ew) (hu vs)
  exact off_some rn e
/-! ### changed afterwards: paths into the region -/
def XP (X : Cx) (z : Zs) (Γ : List Sl) (R R' : Hp) (e : Expr) {β : Type} (B : Ty2 β) (w : (β → Prop) → Prop) : Prop :=
  ∀ (G0 H0 : Hp) (σ : L2.St) (G H : Hp) (k : β → Prop) (Q : VK), Ev z G0 H0 G H σ Γ → w k → (∀ G' H' v v' y, Wd z G' H' → Stp z G H G' H' → B.rep G' R v y → Kd R v v' → k y → Q v' H') → RE X e σ H Q
theorem xp_name (i : Nat) {R R' : Hp} {n : Bool} {c : Nat} {x : Str} {y : α} (hΓ : Γ[i]? = some (.rg R R' n c A2 y)) (hN : X.N[i]? = some x) (hv : Vis X.env.scope x) (hd : (x == ("__debug__" : Str)) = false := by decide) (hcd : (x == ("__classdict__" : Str)) = false := by decide) :
    XP X z Γ R R' (.Name x pos) A2 (fun k => k y) := fun G0 H0 σ G H k Q E hw hk => by
  obtain ⟨o, e, v, rfl, r, sk, q, f⟩ := E.at_ hΓ
  exact ⟨_, pe_var hN hv hd hcd, v, e, hk G H v v y E.wd (Stp.refl _ _ _) r (Kd.refl _ _) hw⟩
/-- the region's slot, somewhere -/
structure RgOk (z : Zs) (c : Nat) (R R' H0 G H : Hp) : Prop where
  sk : Skel c R R'
  ow : ∀ a u, R' a = some u → Own z H0 G H a u
theorem RgOk.of {G0 H0 G H R R' : Hp} {σ : L2.St} {j : Nat} {n : Bool} {c : Nat} {y : α} (E : Ev z G0 H0 G H σ Γ) (hj : Γ[j]? = some (.rg R R' n c A2 y)) : RgOk z c R R' H0 G H := by
  obtain ⟨ov, eo, v, rfl, r, k, q, f⟩ := E.at_ hj
  exact ⟨k, q⟩
/-- an old list of the region as it stands now -/
theorem RgOk.now {c : Nat} {H0 G H R R' : Hp} (h : RgOk z c R R' H0 G H) {q : Addr} {vs : List V} (e : R q = some (.lst vs)) : ∃ vs', R' q = some (.lst vs') ∧ SkV c R vs vs' ∧ Own z H0 G H q (.lst vs') := by
  obtain ⟨vs', e', s⟩ := h.sk.lst q vs e
  exact ⟨vs', e', s, h.ow q _ e'⟩
theorem SkV.atI {c : Nat} {R : Hp} {vs vs' : List V} (s : SkV c R vs vs') {i : Nat} {v : V} (h : vs[i]? = some v) : ∃ v', vs'[i]? = some v' ∧ Kd R v v' := s.2 i v h
theorem xp_ix (j : Nat) {R R' : Hp} {n : Bool} {c : Nat} {y0 : α} (hj : Γ[j]? = some (.rg R R' n c A2 y0)) {wl2 : (List β → Prop) → Prop} (h : XP X z Γ R R' a (t2L B2) wl2) (hi : XE X z Γ b tyI wi) (hs : PlainIx b) : XP X z Γ R R' (.Subscript a b pos) B2 (fun k => wl2 fun xs => wi fun i => 0 ≤ i ∧ ∃ y, xs[i.toNat]? = some y ∧ k y) := fun G0 H0 σ G H k Q E hw hk =>
  ⟨_, pe_ix ix_list re re hs, h G0 H0 σ G H _ _ E hw fun G1 H1 v v' xs W1 S1 r kd h1 => hi G0 H0 σ G1 H1 _ _ (E.step W1 S1) h1 fun G2 H2 u i W2 S2 ri ⟨i0, y, ey, h2⟩ => by
    obtain ⟨q, vs, ev, rq, p⟩ := r
    have E2 := (E.step W1 S1).step W2 S2
    obtain ⟨vs', rq', sk, ow⟩ := (RgOk.of E2 hj).now rq
    obtain ⟨w, ew, rw'⟩ := Paired.at_ p ey
    obtain ⟨w', ew', kw⟩ := sk.atI ew
    have e1 := kd.lst q vs ev rq
    refine ⟨q, vs', i, w', by rw [e1, ev], ri, SqL.of ow.h, ?_, hk G2 H2 w w' y W2 (S1.trans S2) (B2.mono S2.g (Same.refl _) rw') kw h2⟩
    have e2 : i = (i.toNat : Int) := by omega
    rw [e2]
    exact atI_nat ew'⟩
/-- the i-th of a row of the region -/
def RowAt2 {ρ : Type} (R2 : Row2 ρ) (i : Nat) (A2 : Ty2 α) (f : ρ → α) : Prop := ∀ G R vs x, R2.rep G R vs x → ∃ v, vs[i]? = some v ∧ A2.rep G R v (f x)
theorem ra2_one : RowAt2 (Row2.one A2) 0 A2 id := fun _ _ _ _ ⟨v, e, r⟩ => ⟨v, by rw [e]; rfl, r⟩
theorem ra2_zero {ρ : Type} {R2 : Row2 ρ} : RowAt2 (Row2.cons A2 R2) 0 A2 Prod.fst := fun _ _ _ _ ⟨v, r, e, h, _⟩ => ⟨v, by rw [e]; rfl, h⟩
theorem ra2_succ {ρ : Type} {R2 : Row2 ρ} {i : Nat} {f : ρ → α} (h : RowAt2 R2 i A2 f) : RowAt2 (Row2.cons B2 R2) (i + 1) A2 (fun x => f x.2) := fun G R _ _ ⟨v, r, e, _, q⟩ => by
  obtain ⟨u, h1, h2⟩ := h G R _ _ q
  exact ⟨u, by rw [e]; exact h1, h2⟩
theorem xp_ixM (j : Nat) {R R' : Hp} {n : Bool} {c : Nat} {y0 : α} (hj : Γ[j]? = some (.rg R R' n c A2 y0)) {f : ρ → β} {i : Nat} (h : XP X z Γ R R' a (t2M R2) wr) (hr : RowAt2 R2 i B2 f) (hi : XE X z Γ b tyI (fun k => k (i : Int))) (hs : PlainIx b) : XP X z Γ R R' (.Subscript a b pos) B2 (fun k => wr fun x => k (f x)) := fun G0 H0 σ G H k Q E hw hk =>
  ⟨_, pe_ix ix_list re re hs, h G0 H0 σ G H _ _ E hw fun G1 H1 v v' x W1 S1 r kd h1 => hi G0 H0 σ G1 H1 (fun q => q = (i : Int)) _ (E.step W1 S1) rfl fun G2 H2 u i' W2 S2 ri ei => by
    obtain ⟨q, vs, ev, rq, p⟩ := r
    have E2 := (E.step W1 S1).step W2 S2
    obtain ⟨vs', rq', sk, ow⟩ := (RgOk.of E2 hj).now rq
    obtain ⟨w, ew, rw'⟩ := hr G1 R vs x p
    obtain ⟨w', ew', kw⟩ := sk.atI ew
    have e1 := kd.lst q vs ev rq
    subst ei
    exact ⟨q, vs', i, w', by rw [e1, ev], ri, SqL.of ow.h, atI_nat ew', hk G2 H2 w w' _ W2 (S1.trans S2) (B2.mono S2.g (Same.refl _) rw') kw h1⟩⟩
/-- a number of the region, whatever it is now -/
theorem xe_pI {R R' : Hp} (h : XP X z Γ R R' e (t2N tyI) wi) : XE X z Γ e tyI (fun k => wi fun _ => ∀ n, k n) := fun G0 H0 σ G H k Q E hw hk =>
  h G0 H0 σ G H _ _ E hw fun G1 H1 v v' y W1 S1 r kd h1 => by
    obtain ⟨n, e⟩ := kd.int y r
    exact hk G1 H1 v' n W1 S1 e (h1 n)
/-- as long as it was -/
theorem xe_lenRg (i : Nat) {R R' : Hp} {c : Nat} {x : Str} {ys : List β} (hm : X.mg "len" = none) (hΓ : Γ[i]? = some (.rg R R' true c (t2L B2) ys)) (hN : X.N[i]? = some x) (hv : Vis X.env.scope x) (hg : Gl X "len" := by rfl) (hs : starEach (.Name x p2 :: []) X.env = (false, eval (.Name x p2) X.env) :: starEach [] X.env := by rfl) (hd : (x == ("__debug__" : Str)) = false := by decide) (hcd : (x == ("__classdict__" : Str)) = false := by decide) :
    XE X z Γ (.Call (.Name "len" p) [.Name x p2] [] pos) tyI (fun k => k (ys.length : Int)) := fun G0 H0 σ G H k Q E hw hk => by
  obtain ⟨o, e, v, rfl, r, sk, ow, f⟩ := E.at_ hΓ
  obtain ⟨q, vs, ev, rq, p'⟩ := r
  obtain ⟨vs', e', s⟩ := sk.lst q vs rq
  refine ⟨_, pe_callB call_len_seq hg hm PySem.boot_len (pa_cons (pe_var hN hv hd hcd) pa_nil hs) (by decide) (by decide) hs rfl, v, e, ⟨q, vs', by rw [ev], .inl (SqL.of (ow q _ e').h), ?_⟩⟩
  have l := f rfl q vs vs' ev rq e'
  exact hk G H _ _ E.wd (Stp.refl _ _ _) (by rw [← l, p'.length]; rfl) hw
/-- a list of the region changes, item by item of its kind -/
theorem SkV.mono {c c' : Nat} {R : Hp} {vs ws : List V} (h : SkV c R vs ws) (l : c ≤ c') : SkV c' R vs ws := ⟨⟨h.1.1, Nat.le_trans h.1.2 (Nat.add_le_add_left l _)⟩, h.2⟩
theorem Skel.set {c c' : Nat} {R R' : Hp} (s : Skel c R R') (hc : c ≤ c') {q : Addr} {vs ws : List V} (e : R q = some (.lst vs)) (h : SkV c' R vs ws) : Skel c' R (upd R' q (.lst ws)) := by
  refine ⟨fun a => ?_, fun a us ha => ?_, s.only⟩
  · by_cases h : a = q
    · subst h; rw [upd_same, e]; exact ⟨(fun z => nomatch z), (fun z => nomatch z)⟩
    · rw [upd_ne h]; exact s.dom a
  · by_cases hq : a = q
    · subst hq
      rw [e] at ha
      cases ha
      exact ⟨ws, upd_same, h⟩
    · rw [upd_ne hq]
      obtain ⟨us', h1, h2⟩ := s.lst a us ha
      exact ⟨us', h1, h2.mono hc⟩
theorem SkV.setAt {c : Nat} {R : Hp} {vs vs' : List V} (s : SkV c R vs vs') {j : Nat} {v u : V} (hv : vs[j]? = some v) (kd : Kd R v u) : SkV c R vs (vs'.set j u) := by
  refine ⟨⟨by rw [List.length_set]; exact s.1.1, by rw [List.length_set]; exact s.1.2⟩, fun i w hw => ?_⟩
  by_cases h : j = i
  · subst h
    rw [hv] at hw
    cases hw
    have hl : j < vs'.length := Nat.lt_of_lt_of_le (List.getElem?_eq_some_iff.mp hv).1 s.1.1
    exact ⟨u, List.getElem?_set_self hl, kd⟩
  · rw [List.getElem?_set_ne h]
    exact s.2 i w hw
theorem SkV.app {c : Nat} {R : Hp} {vs vs' : List V} (s : SkV c R vs vs') (u : V) : SkV (c + 1) R vs (vs' ++ [u]) := by
  refine ⟨⟨by rw [List.length_append]; exact Nat.le_trans s.1.1 (Nat.le_add_right _ _), by rw [List.length_append]; have := s.1.2; show vs'.length + 1 ≤ _; omega⟩, fun i w hw => ?_⟩
  obtain ⟨w', h1, h2⟩ := s.2 i w hw
  have hl : i < vs'.length := (List.getElem?_eq_some_iff.mp h1).1
  exact ⟨w', by rw [List.getElem?_append_left hl]; exact h1, h2⟩
/-- the slot behind a change at q -/
theorem Ev.mutRg {G0 H0 G H R R' : Hp} {σ : L2.St} {i : Nat} {n n' : Bool} {c c' : Nat} {y : α} (E : Ev z G0 H0 G H σ Γ) (hi : Γ[i]? = some (.rg R R' n c A2 y)) {q : Addr} {vs vs' ws : List V} (e : R q = some (.lst vs)) (e' : R' q = some (.lst vs')) (hc : c ≤ c') (h : SkV c' R vs ws)
    (hn : ∀ v, (n = true → FixL R R' v) → A2.rep G R v y → n' = true → FixL R (upd R' q (.lst ws)) v) : Ev z G0 H0 G (upd H q (.lst ws)) σ (Γ.set i (.rg R (upd R' q (.lst ws)) n' c' A2 y)) := by
  obtain ⟨o, eo, v, rfl, r, sk, ow, f⟩ := E.at_ hi
  have oq := ow q _ e'
  refine E.mut hi eo (show R' q ≠ none by rw [e']; intro z; cases z) oq ⟨v, rfl, r, Skel.set sk hc e h, fun a u ha => ?_, fun h' => hn v f r h'⟩ fun l hl => ?_
  · by_cases h : a = q
    · subst h
      rw [upd_same] at ha
      cases ha
      exact ⟨oq.g, oq.z, oq.h0, upd_same⟩
    · rw [upd_ne h] at ha
      have oa := ow a u ha
      exact ⟨oa.g, oa.z, oa.h0, by rw [upd_ne h]; exact oa.h⟩
  · show R' l ≠ none
    have hl : upd R' q (.lst ws) l ≠ none := hl
    by_cases h : l = q
    · rw [h, e']; intro z; cases z
    · rw [upd_ne h] at hl; exact hl
theorem fix_set {R R' : Hp} {q : Addr} {vs' ws : List V} (e' : R' q = some (.lst vs')) (hl : ws.length = vs'.length) {v : V} (f : FixL R R' v) : FixL R (upd R' q (.lst ws)) v := fun l us us' ev h h' => by
  by_cases hq : l = q
  · subst hq
    rw [upd_same] at h'
    cases h'
    rw [hl]
    exact f l us vs' ev h e'
  · rw [upd_ne hq] at h'
    exact f l us us' ev h h'
/-- path[b] = e, a number for a number -/
theorem xb_mutI (i : Nat) {R R' : Hp} {n : Bool} {c : Nat} {y : α} {wk : Prop} {f : ρ → Int} {j : Nat} (hΓ : Γ[i]? = some (.rg R R' n c A2 y)) (hp : XP X z Γ R R' a (t2M R2) wr) (hr : RowAt2 R2 j (t2N tyI) f) (hb : XE X z Γ b tyI (fun k => k (j : Int))) (he : XE X z Γ e tyI wi)
    (hn : ∀ R', XB X z ct (Γ.set i (.rg R R' n c A2 y)) rest wk)
    (hs : swapsWithSole [.Subscript a b p2] e pos.line X.env = pure false := by rfl) (hw2 : swappedStores [.Subscript a b p2] e X.env = pure none := by rfl)
    (h1 : (assignEach [.Subscript a b p2] X.env).map (·.2) = [assign (.Subscript a b p2) X.env] := by rfl)
    (ha : ∀ v, assign (.Subscript a b p2) X.env v = (do
      let ov ← holding [v] (eval a X.env)
      let iv ← holding [v, ov] (eval b X.env)
      standAt p2
      holding [v, ov, iv] (setItem ov iv v)
      release [v, ov, iv] []) := by intro _; rfl) :
    XB X z ct Γ (.Assign [.Subscript a b p2] e pos :: rest) (wi fun _ => wr fun _ => wk) := fun G0 H0 D σ G H M E hw => by
  refine ⟨_, pss_cons (ps_asg re (pg_sub re re set_list ha) hs hw2 h1) rs, ?_⟩
  refine he G0 H0 σ G H _ _ E hw fun G1 H1 u n1 W1 S1 ru g1 => ?_
  refine hp G0 H0 σ G1 H1 _ _ (E.step W1 S1) g1 fun G2 H2 v v' x W2 S2 r kd g2 => ?_
  refine hb G0 H0 σ G2 H2 (fun q => q = (j : Int)) _ ((E.step W1 S1).step W2 S2) rfl fun G3 H3 iv j' W3 S3 rj ej => ?_
  subst ej
  have E3 := ((E.step W1 S1).step W2 S2).step W3 S3
  obtain ⟨q, vs, ev, rq, p⟩ := r
  obtain ⟨w, ew, rw'⟩ := hr G2 R vs x p
  obtain ⟨vs', rq', sk, ow⟩ := (RgOk.of E3 hΓ).now rq
  have e1 := kd.lst q vs ev rq
  have hl : j < vs'.length := Nat.lt_of_lt_of_le (List.getElem?_eq_some_iff.mp ew).1 sk.1.1
  refine ⟨q, vs', j, j, by rw [e1, ev], rj, ow.h, ?_, ?_⟩
  · unfold ixN
    rw [if_pos (by omega), if_pos (by omega)]
    simp
  · have kd2 : Kd R w u := by
      have e2 : w = V.int (f x) := rw'
      have e3 : u = V.int n1 := ru
      rw [e2, e3]
      exact ⟨fun _ _ => ⟨n1, rfl⟩, fun _ h => (nomatch h), fun _ _ h => (nomatch h)⟩
    exact hn _ G0 H0 D σ G3 _ M (E3.mutRg hΓ rq rq' (Nat.le_refl _) (sk.setAt ew kd2) fun v f r h => fix_set rq' List.length_set (f h)) g2
/-- path[b] = e, a text for a text -/
theorem xb_mutS (i : Nat) {R R' : Hp} {n : Bool} {c : Nat} {y : α} {wk : Prop} {ws : (Str → Prop) → Prop} {f : ρ → Str} {j : Nat} (hΓ : Γ[i]? = some (.rg R R' n c A2 y)) (hp : XP X z Γ R R' a (t2M R2) wr) (hr : RowAt2 R2 j (t2N tyS) f) (hb : XE X z Γ b tyI (fun k => k (j : Int))) (he : XE X z Γ e tyS ws)
    (hn : ∀ R', XB X z ct (Γ.set i (.rg R R' n c A2 y)) rest wk)
    (hs : swapsWithSole [.Subscript a b p2] e pos.line X.env = pure false := by rfl) (hw2 : swappedStores [.Subscript a b p2] e X.env = pure none := by rfl)
    (h1 : (assignEach [.Subscript a b p2] X.env).map (·.2) = [assign (.Subscript a b p2) X.env] := by rfl)
    (ha : ∀ v, assign (.Subscript a b p2) X.env v = (do
      let ov ← holding [v] (eval a X.env)
      let iv ← holding [v, ov] (eval b X.env)
      standAt p2
      holding [v, ov, iv] (setItem ov iv v)
      release [v, ov, iv] []) := by intro _; rfl) :
    XB X z ct Γ (.Assign [.Subscript a b p2] e pos :: rest) (ws fun _ => wr fun _ => wk) := fun G0 H0 D σ G H M E hw => by
  refine ⟨_, pss_cons (ps_asg re (pg_sub re re set_list ha) hs hw2 h1) rs, ?_⟩
  refine he G0 H0 σ G H _ _ E hw fun G1 H1 u n1 W1 S1 ru g1 => ?_
  refine hp G0 H0 σ G1 H1 _ _ (E.step W1 S1) g1 fun G2 H2 v v' x W2 S2 r kd g2 => ?_
  refine hb G0 H0 σ G2 H2 (fun q => q = (j : Int)) _ ((E.step W1 S1).step W2 S2) rfl fun G3 H3 iv j' W3 S3 rj ej => ?_
  subst ej
  have E3 := ((E.step W1 S1).step W2 S2).step W3 S3
  obtain ⟨q, vs, ev, rq, p⟩ := r
  obtain ⟨w, ew, rw'⟩ := hr G2 R vs x p
  obtain ⟨vs', rq', sk, ow⟩ := (RgOk.of E3 hΓ).now rq
  have e1 := kd.lst q vs ev rq
  have hl : j < vs'.length := Nat.lt_of_lt_of_le (List.getElem?_eq_some_iff.mp ew).1 sk.1.1
  refine ⟨q, vs', j, j, by rw [e1, ev], rj, ow.h, ?_, ?_⟩
  · unfold ixN
    rw [if_pos (by omega), if_pos (by omega)]
    simp
  · have kd2 : Kd R w u := by
      have e2 : w = V.str (f x) := rw'.1
      have e3 : u = V.str n1 := ru.1
      rw [e2, e3]
      exact ⟨fun _ h => (nomatch h), fun _ _ => ⟨n1, rfl⟩, fun _ _ h => (nomatch h)⟩
    exact hn _ G0 H0 D σ G3 _ M (E3.mutRg hΓ rq rq' (Nat.le_refl _) (sk.setAt ew kd2) fun v f r h => fix_set rq' List.length_set (f h)) g2
theorem fix_app {G R R' : Hp} {q : Addr} {vs' ws : List V} (e' : R' q = some (.lst vs')) {v : V} (f : FixL R R' v) (hne : v ≠ .ref q) : FixL R (upd R' q (.lst ws)) v := fun l us us' ev h h' => by
  by_cases hq : l = q
  · subst hq
    exact absurd ev hne
  · rw [upd_ne hq] at h'
    exact f l us us' ev h h'
/-- path.append(e) -/
theorem xb_mutApp (i : Nat) {R R' : Hp} {n : Bool} {c : Nat} {y : α} {wk : Prop} {C2 : Ty2 γ} {wc : (List γ → Prop) → Prop} {apos cpos : Pos} (n' : Bool) (hΓ : Γ[i]? = some (.rg R R' n c A2 y)) (hp : XP X z Γ R R' a (t2L C2) wc) (he : XE X z Γ e B wb)
    (hf : ∀ G v w xs, n' = true → n = true → A2.rep G R v y → (t2L C2).rep G R w xs → (∀ a u, R a = some u → G a = none) → v ≠ w) (hnn : n' = true → n = true) (hn : ∀ R', XB X z ct (Γ.set i (.rg R R' n' (c + 1) A2 y)) rest wk)
    (hs : starEach (e :: []) X.env = (false, eval e X.env) :: starEach [] X.env := by rfl)
    (hbase : attributeBase a "append" X.env (eval a X.env) = eval a X.env := by rfl)
    (hfew : ((backTo cpos (starEach (e :: []) X.env)).all (fun x => !x.1) && (backToKw cpos (keywordEach [] X.env)).all (fun x => x.1.isSome)
      && decide ((e :: []).length + ([] : List Keyword).length + (if ([] : List Keyword).isEmpty then 0 else 1) < 30)) = true := by rfl)
    (hline : (apos.endLine == cpos.line) = true := by rfl) (hsw : swapsWith (.Call (.Attribute a "append" apos) [e] [] cpos) none pos.line X.env = pure false := by rfl) :
    XB X z ct Γ (.Expr (.Call (.Attribute a "append" apos) [e] [] cpos) pos :: rest) (wc fun xs => wb fun _ => xs.length + c < sizeLine ∧ wk) := fun G0 H0 D σ G H M E hw => by
  refine ⟨_, pss_cons (ps_expr (pe_bm PySem.F.plainAttrs_list PySem.F.slot_list_append PySem.F.type_list_append mt_append re (pa_cons re pa_nil hs) hbase hfew hline hs rfl) hsw) rs, ?_⟩
  refine hp G0 H0 σ G H _ _ E hw fun G1 H1 v v' xs W1 S1 r kd g1 => ?_
  have E1 := E.step W1 S1
  obtain ⟨q, vs, ev, rq, p⟩ := id r
  obtain ⟨vs', rq', sk, ow⟩ := (RgOk.of E1 hΓ).now rq
  have e1 : v' = .ref q := by rw [kd.lst q vs ev rq, ev]
  subst e1
  refine ⟨.inl ⟨rfl, vs', SqL.of ow.h⟩, he G0 H0 σ G1 H1 _ _ E1 g1 fun G2 H2 u yy W2 S2 ru ⟨hl, g2⟩ => ?_⟩
  have E2 := E1.step W2 S2
  have ow2 := ow.step S2
  have hlen := sk.1.2
  refine ⟨q, vs', u, rfl, rfl, ow2.h, ?_, ?_⟩
  · have : vs.length = xs.length := p.length
    omega
  · refine hn _ G0 H0 D σ G2 _ M (E2.mutRg (n' := n') hΓ rq rq' (Nat.le_succ _) (sk.app u) fun v2 f r2 h2 => ?_) g2
    refine fix_app (G := G2) rq' (f (hnn h2)) ?_
    have r' := (t2L C2).mono S2.g (Same.refl _) r
    rw [ev] at r'
    exact hf G2 v2 (.ref q) xs h2 (hnn h2) r2 r' fun a u ha => by
      obtain ⟨o, eo, v3, rfl, r3, sk3, ow3, f3⟩ := E2.at_ hΓ
      cases e3 : R' a with
      | none =>
        have := (sk3.dom a).mpr e3
        rw [ha] at this
        cases this
      | some w => exact (ow3 a w e3).g
/-- the outer list holds lists, the inner one texts -/
theorem dst_MS {R2 : Row2 ρ} {G R : Hp} {v w : V} {ys : List ρ} {xs : List Str} (h : (t2L (t2M R2)).rep G R v ys) (h2 : (t2L (t2N tyS)).rep G R w xs) (hy : ys ≠ []) : v ≠ w := fun e => by
  obtain ⟨q, vs, ev, rq, p⟩ := h
  obtain ⟨q2, vs2, ev2, rq2, p2⟩ := h2
  rw [e, ev2] at ev
  cases ev
  rw [rq] at rq2
  cases rq2
  cases p with
  | nil => exact hy rfl
  | cons h t =>
    cases p2 with
    | cons h2 t2 =>
      obtain ⟨l, us, el, _⟩ := h
      rw [el] at h2
      cases (show V.ref l = V.str _ from h2.1)
end
end Zk
/-! TL13: the statement rules again, each with what it asks as an implication, so that a printed reading flows from the top down. -/
namespace Zk
open PySem PySem.Spec L2
/-- a value named -/
def Bnd {α : Type} (v : α) (k : α → Prop) : Prop := k v
/-- what follows, named -/
def Jn {τ : Type} (wj : τ → Prop) (g : (τ → Prop) → Prop) : Prop := g wj
section
variable {X : Cx} {z : Zs} {Γ Γ1 : List Sl} {ct : Ct} {a b c e o tg iter : Expr} {es : List Expr} {rest body orelse : List Stmt} {α β γ τ ρ φ : Type} {A : Ty α} {B : Ty β} {A2 : Ty2 α} {B2 : Ty2 β} {R : Row ρ} {R2 : Row2 ρ} {Rf : Row φ} {pos p p' p2 : Pos} {x m : Str} {w : Prop}
  {wa : (α → Prop) → Prop} {wb : (β → Prop) → Prop} {wl : (List α → Prop) → Prop} {wi : (Int → Prop) → Prop} {ws : (Str → Prop) → Prop} {wc : (Bool → Prop) → Prop} {wr : (ρ → Prop) → Prop}
theorem y_join {ΓJ : τ → List Sl} {wj : τ → Prop} (s : τ) (h : Cv Γ (ΓJ s)) (hn : ct.n = J ΓJ wj) (hw : w → wj s) : XB X z ct Γ [] w := xb_imp hw (xb_join s h hn)
theorem y_break {ΓJ : τ → List Sl} {wj : τ → Prop} (s : τ) (h : Cv Γ (ΓJ s)) (hn : ct.b = J ΓJ wj) (hw : w → wj s) : XB X z ct Γ (.Break pos :: rest) w := xb_imp hw (xb_break s h hn)
theorem y_continue {ΓJ : τ → List Sl} {wj : τ → Prop} (s : τ) (h : Cv Γ (ΓJ s)) (hn : ct.c = J ΓJ wj) (hw : w → wj s) : XB X z ct Γ (.Continue pos :: rest) w := xb_imp hw (xb_continue s h hn)
theorem y_never {st : Stmt} (hw : w → False) : XB X z ct Γ (st :: rest) w := xb_imp hw xb_never
theorem y_nil (hw : w → ct.n Γ) : XB X z ct Γ [] w := xb_imp hw xb_nil
theorem y_set (i : Nat) {wk : α → Prop} (hN : X.N.Nodup) (hi : X.N[i]? = some x) (hx : Loc X.env.scope x) (he : XE X z Γ e A wa) (hw : w → wa fun v => Bnd v wk) (hn : ∀ y, XB X z ct (Γ.set i (.fz A y)) rest (wk y))
    (hs : swapsWith e (some (.Name x p')) pos.line X.env = pure false := by rfl) (hf : X.fn x = true ∨ X.env.scope.names.lookup x = some .local := by first | exact .inl rfl | exact .inr rfl) :
    XB X z ct Γ (.Assign [.Name x p'] e pos :: rest) w := xb_imp hw (xb_set i hN hi hx he hn hs hf)
theorem y_setF (i : Nat) {wk : List α → Prop} (hN : X.N.Nodup) (hi : X.N[i]? = some x) (hx : Loc X.env.scope x) (he : XF X z Γ e A wl) (hw : w → wl fun v => Bnd v wk) (hn : ∀ y, XB X z ct (Γ.set i (.ml A y)) rest (wk y))
    (hs : swapsWith e (some (.Name x p')) pos.line X.env = pure false := by rfl) (hf : X.fn x = true ∨ X.env.scope.names.lookup x = some .local := by first | exact .inl rfl | exact .inr rfl) :
    XB X z ct Γ (.Assign [.Name x p'] e pos :: rest) w := xb_imp hw (xb_setF i hN hi hx he hn hs hf)
theorem y_app (i : Nat) {xs : List α} {wk : α → Prop} {apos cpos : Pos} (hΓ : Γ[i]? = some (.ml A xs)) (hN : X.N[i]? = some x) (hv : Vis X.env.scope x) (he : XE X z Γ e A wa) (hw : w → wa fun y => xs.length < sizeLine ∧ Bnd y wk) (hn : ∀ y, XB X z ct (Γ.set i (.ml A (xs ++ [y]))) rest (wk y))
    (hs : starEach (e :: []) X.env = (false, eval e X.env) :: starEach [] X.env := by rfl)
    (hbase : attributeBase (.Name x p) "append" X.env (eval (.Name x p) X.env) = eval (.Name x p) X.env := by rfl)
    (hfew : ((backTo cpos (starEach (e :: []) X.env)).all (fun x => !x.1) && (backToKw cpos (keywordEach [] X.env)).all (fun x => x.1.isSome)
      && decide ((e :: []).length + ([] : List Keyword).length + (if ([] : List Keyword).isEmpty then 0 else 1) < 30)) = true := by rfl)
    (hline : (apos.endLine == cpos.line) = true := by rfl) (hsw : swapsWith (.Call (.Attribute (.Name x p) "append" apos) [e] [] cpos) none pos.line X.env = pure false := by rfl)
    (hd : (x == ("__debug__" : Str)) = false := by decide) (hcd : (x == ("__classdict__" : Str)) = false := by decide) :
    XB X z ct Γ (.Expr (.Call (.Attribute (.Name x p) "append" apos) [e] [] cpos) pos :: rest) w := xb_imp hw (xb_app i hΓ hN hv he hn hs hbase hfew hline hsw hd hcd)
theorem y_setL (i : Nat) {xs : List α} {wk : List α → Prop} (hΓ : Γ[i]? = some (.ml A xs)) (hN : X.N[i]? = some x) (hv : Vis X.env.scope x) (he : XE X z Γ e A wa) (hb : XE X z Γ b tyI wi) (hw : w → wa fun y => wi fun j => ∃ n, ixN xs.length j = some n ∧ Bnd (xs.set n y) wk) (hn : ∀ ys, XB X z ct (Γ.set i (.ml A ys)) rest (wk ys))
    (hs : swapsWithSole [.Subscript (.Name x p) b p2] e pos.line X.env = pure false := by rfl) (hw2 : swappedStores [.Subscript (.Name x p) b p2] e X.env = pure none := by rfl)
    (h1 : (assignEach [.Subscript (.Name x p) b p2] X.env).map (·.2) = [assign (.Subscript (.Name x p) b p2) X.env] := by rfl)
    (ha : ∀ v, assign (.Subscript (.Name x p) b p2) X.env v = (do
      let ov ← holding [v] (eval (.Name x p) X.env)
      let iv ← holding [v, ov] (eval b X.env)
      standAt p2
      holding [v, ov, iv] (setItem ov iv v)
      release [v, ov, iv] []) := by intro _; rfl) (hd : (x == ("__debug__" : Str)) = false := by decide) (hcd : (x == ("__classdict__" : Str)) = false := by decide) :
    XB X z ct Γ (.Assign [.Subscript (.Name x p) b p2] e pos :: rest) w := xb_imp hw (xb_setL i hΓ hN hv he hb hn hs hw2 h1 ha hd hcd)
theorem y_put (i : Nat) {d : List (Str × α)} {wk : List (Str × α) → Prop} (hu : X.A.units + 1 < cLine) (hΓ : Γ[i]? = some (.md A d)) (hN : X.N[i]? = some x) (hv : Vis X.env.scope x) (he : XE X z Γ e A wa) (hb : XE X z Γ b tyS ws) (hw : w → wa fun y => ws fun s => d.length < sizeLine ∧ Bnd (put d s y) wk) (hn : ∀ ys, XB X z ct (Γ.set i (.md A ys)) rest (wk ys))
    (hs : swapsWith e (some (.Subscript (.Name x p) b p2)) pos.line X.env = pure false := by rfl) (hd : (x == ("__debug__" : Str)) = false := by decide) (hcd : (x == ("__classdict__" : Str)) = false := by decide) :
    XB X z ct Γ (.Assign [.Subscript (.Name x p) b p2] e pos :: rest) w := xb_imp hw (xb_put i hu hΓ hN hv he hb hn hs hd hcd)
theorem y_expr {wk : Prop} (he : XE X z Γ e A wa) (hw : w → wa fun _ => wk) (hn : XB X z ct Γ rest wk) (hs : swapsWith e none pos.line X.env = pure false := by rfl) : XB X z ct Γ (.Expr e pos :: rest) w := xb_imp hw (xb_expr he hn hs)
theorem y_ret {wb : (ct.β → Prop) → Prop} (he : XE X z Γ e ct.B wb) (hw : w → wb (ct.r Γ)) : XB X z ct Γ (.Return (some e) pos :: rest) w := xb_imp hw (xb_ret he)
theorem y_if (ΓJ : τ → List Sl) {wj : τ → Prop} {w1 w2 : (τ → Prop) → Prop} (hc : XT X z Γ c wc) (hw : w → Jn wj fun j => wc fun b => if b = true then w1 j else w2 j) (h1 : ∀ j, XB X z { ct with n := J ΓJ j } Γ body (w1 j)) (h2 : ∀ j, XB X z { ct with n := J ΓJ j } Γ orelse (w2 j)) (hr : ∀ s, XB X z ct (ΓJ s) rest (wj s)) :
    XB X z ct Γ (.If c body orelse pos :: rest) w := xb_imp hw (xb_if ΓJ wj hc (h1 wj) (h2 wj) hr)
theorem y_if1 {w1 w2 : Prop} (hc : XT X z Γ c wc) (hw : w → wc fun b => if b = true then w1 else w2) (h1 : XB X z { ct with n := fun _ => False } Γ body w1) (hr : XB X z ct Γ rest w2) : XB X z ct Γ (.If c body [] pos :: rest) w := xb_imp hw (xb_if1 hc h1 hr)
theorem y_if2 {w1 w2 : Prop} (hc : XT X z Γ c wc) (hw : w → wc fun b => if b = true then w1 else w2) (h1 : XB X z { ct with n := fun _ => False } Γ body w1) (h2 : XB X z { ct with n := fun _ => False } Γ orelse w2) : XB X z ct Γ (.If c body orelse pos :: rest) w := xb_imp hw (xb_if2 hc h1 h2)
theorem y_for {is : List Nat} {ΓT : τ → α → List Sl} {wb : (τ → Prop) → τ → α → Prop} {wk : τ → Prop} (ΓL : τ → List Sl) (s0 : τ) (hp : PassesOwn (model X.prog X.w) X.A X.env X.xe) (hc : X.calm = true) (hi : XI X z Γ tg iter A wl) (cv : Cv Γ (ΓL s0))
    (hg : ∀ s, XG X z (ΓL s) tg A is (ΓT s)) (hw : w → wl fun xs => WFor xs s0 wb wk)
    (hb : ∀ (nx : τ → Prop) s x, XB X z { ct with n := J ΓL nx, c := J ΓL nx, b := J ΓL wk } (ΓT s x) body (wb nx s x)) (hr : ∀ s, XB X z ct (ΓL s) rest (wk s))
    (hs : ∀ x, foldedSetIterable iter X.env x = pure x := by intro _; rfl) : XB X z ct Γ (.For tg iter body [] pos :: rest) w := xb_imp hw (xb_for ΓL s0 hp hc hi cv hg hb hr hs)
/-- a loop that breaks -/
theorem y_forB {is : List Nat} {ΓT : τ → α → List Sl} {wb : (τ → Prop) → (τ → Prop) → τ → α → Prop} {wk : τ → Prop} (ΓL : τ → List Sl) (s0 : τ) (hp : PassesOwn (model X.prog X.w) X.A X.env X.xe) (hc : X.calm = true) (hi : XI X z Γ tg iter A wl) (cv : Cv Γ (ΓL s0))
    (hg : ∀ s, XG X z (ΓL s) tg A is (ΓT s)) (hw : w → wl fun xs => Jn wk fun j => WFor xs s0 (wb j) j)
    (hb : ∀ (j nx : τ → Prop) s x, XB X z { ct with n := J ΓL nx, c := J ΓL nx, b := J ΓL j } (ΓT s x) body (wb j nx s x)) (hr : ∀ s, XB X z ct (ΓL s) rest (wk s))
    (hs : ∀ x, foldedSetIterable iter X.env x = pure x := by intro _; rfl) : XB X z ct Γ (.For tg iter body [] pos :: rest) w := xb_imp hw (xb_for ΓL s0 hp hc hi cv hg (hb wk) hr hs)
theorem y_while {wb : (τ → Prop) → (τ → Prop) → τ → Prop} {wk : τ → Prop} {wct : τ → (Bool → Prop) → Prop} (ΓL : τ → List Sl) (s0 : τ) (hp : PassesOwn (model X.prog X.w) X.A X.env X.xe) (cv : Cv Γ (ΓL s0)) (hc : ∀ s, XT X z (ΓL s) c (wct s)) (hw : w → Jn wk fun j => WWhile s0 wct (wb j) j)
    (hb : ∀ (j nx : τ → Prop) s, XB X z { ct with n := J ΓL nx, c := J ΓL nx, b := J ΓL j } (ΓL s) body (wb j nx s)) (hr : ∀ s, XB X z ct (ΓL s) rest (wk s)) :
    XB X z ct Γ (.While c body [] pos :: rest) w := xb_imp hw (xb_while ΓL s0 hp cv hc (hb wk) hr)
theorem y_setMx {g : ρ → α → ρ} {y : ρ} {q : Addr} {wk : ρ → Prop} (i j : Nat) (hΓ : Γ[i]? = some (.mx q R y)) (hN : X.N[i]? = some x) (hv : Vis X.env.scope x) (hr : RowPut R j A g) (he : XE X z Γ e A wa) (hb : XE X z Γ b tyI (fun k => k (j : Int))) (hw : w → wa fun y' => Bnd (g y y') wk) (hn : ∀ y', XB X z ct (Γ.set i (.mx q R y')) rest (wk y'))
    (hs : swapsWithSole [.Subscript (.Name x p) b p2] e pos.line X.env = pure false := by rfl) (hw2 : swappedStores [.Subscript (.Name x p) b p2] e X.env = pure none := by rfl)
    (h1 : (assignEach [.Subscript (.Name x p) b p2] X.env).map (·.2) = [assign (.Subscript (.Name x p) b p2) X.env] := by rfl)
    (ha : ∀ v, assign (.Subscript (.Name x p) b p2) X.env v = (do
      let ov ← holding [v] (eval (.Name x p) X.env)
      let iv ← holding [v, ov] (eval b X.env)
      standAt p2
      holding [v, ov, iv] (setItem ov iv v)
      release [v, ov, iv] []) := by intro _; rfl) (hd : (x == ("__debug__" : Str)) = false := by decide) (hcd : (x == ("__classdict__" : Str)) = false := by decide) :
    XB X z ct Γ (.Assign [.Subscript (.Name x p) b p2] e pos :: rest) w := xb_imp hw (xb_setMx i j hΓ hN hv hr he hb hn hs hw2 h1 ha hd hcd)
theorem y_unp {is : List Nat} {Γ' : α → List Sl} {wk : α → Prop} (he : XE X z Γ e A wa) (hg : XG X z Γ tg A is Γ') (hw : w → wa fun v => Bnd v wk) (hn : ∀ y, XB X z ct (Γ' y) rest (wk y))
    (hs : swapsWithSole [tg] e pos.line X.env = pure false := by rfl) (hw2 : swappedStores [tg] e X.env = pure none := by rfl) (h1 : (assignEach [tg] X.env).map (·.2) = [assign tg X.env] := by rfl) :
    XB X z ct Γ (.Assign [tg] e pos :: rest) w := xb_imp hw (xb_unp he hg hn hs hw2 h1)
theorem y_augAdd (i : Nat) {n : Int} {wk : Int → Prop} (hN : X.N.Nodup) (hi : X.N[i]? = some x) (hx : Loc X.env.scope x) (hΓ : Γ[i]? = some (.fz tyI n)) (he : XE X z Γ e tyI wi) (hw : w → wi fun y => Bnd (n + y) wk) (hn : ∀ y, XB X z ct (Γ.set i (.fz tyI y)) rest (wk y))
    (hf : X.fn x = true ∨ X.env.scope.names.lookup x = some .local := by first | exact .inl rfl | exact .inr rfl) :
    XB X z ct Γ (.AugAssign (.Name x p) .Add e pos :: rest) w := xb_imp hw (xb_augAdd i hN hi hx hΓ he hn hf)
theorem y_fldNew {fs : List (Str × Fz)} {sx : Str} {sp : Pos} {q C : Addr} {wk : α → Prop} (i : Nat) (ns : List Str) (hΓ : Γ[i]? = some (.ob q C fs)) (hN : X.N[i]? = some sx) (hv : Vis X.env.scope sx) (hc : Cls X.K C) (hn : NoAttr X.K C m) (hns : fs.map (·.1) = ns) (hnd : m ∉ ns ∧ ns.length < 1000)
    (he : XE X z Γ e A wa) (hw : w → wa fun v => Bnd v wk) (hr : ∀ y, XB X z ct (Γ.set i (.ob q C (fs ++ [(m, ⟨A, y⟩)]))) rest (wk y)) (hs : swapsWith e (some (.Attribute (.Name sx sp) m p')) pos.line X.env = pure false := by rfl)
    (hd : (sx == ("__debug__" : Str)) = false := by decide) (hcd : (sx == ("__classdict__" : Str)) = false := by decide) :
    XB X z ct Γ (.Assign [.Attribute (.Name sx sp) m p'] e pos :: rest) w := xb_imp hw (xb_fldNew i hΓ hN hv hc hn (by rw [hns]; exact hnd.1) (by rw [← List.length_map (f := fun (z : Str × Fz) => z.1), hns]; exact hnd.2) he hr hs hd hcd)
theorem y_initEnd {q C : Addr} {ns : List Str} {fs : List (Str × Fz)} (y : φ) {k : φ → Prop} (h0 : Γ[0]? = some (.ob q C fs)) (hn : fs.map (·.1) = ns) (hR : RowFs Rf fs y)
    (hct : ct.n = fun Γ => ∃ (fs : List (Str × Fz)) (z : φ), Γ[0]? = some (.ob q C fs) ∧ fs.map (·.1) = ns ∧ (∀ G vs, FV G vs fs → Rf.rep G vs z) ∧ k z) (hw : w → k y) : XB X z ct Γ [] w := xb_imp hw (xb_initEnd y h0 hn hR hct)
theorem y_newMx (i : Nat) {wk : ρ → Prop} (hN : X.N.Nodup) (hi : X.N[i]? = some x) (hx : Loc X.env.scope x) (he : XN X z Γ e R wr) (hw : w → wr wk) (hn : ∀ q y, XB X z ct (Γ.set i (.mx q R y)) rest (wk y))
    (hs : swapsWith e (some (.Name x p')) pos.line X.env = pure false := by rfl) (hf : X.fn x = true ∨ X.env.scope.names.lookup x = some .local := by first | exact .inl rfl | exact .inr rfl) :
    XB X z ct Γ (.Assign [.Name x p'] e pos :: rest) w := xb_imp hw (xb_newMx i hN hi hx he hn hs hf)
theorem y_st (i : Nat) {I : φ → Prop} {q : Addr} {u : φ} {w' : Prop} (hΓ : Γ[i]? = some (.mx q Rf u)) (hw : w → I u ∧ w') (hn : XB X ((zmR Rf I).at_ q) ct (Γ.set i .st) rest w')
    (hcn : ∀ Γ Γ', ct.n Γ → ct.n Γ') (hcb : ∀ Γ Γ', ct.b Γ → ct.b Γ') (hcc : ∀ Γ Γ', ct.c Γ → ct.c Γ') (hcr : ∀ Γ Γ' y, ct.r Γ y → ct.r Γ' y) : XB X Z0 ct Γ rest w := xb_imp hw (xb_st i hΓ hn hcn hcb hcc hcr)
theorem y_retM {I : φ → Prop} {st : Addr} {u' : φ} {k : ct.β → Prop} {wb : (ct.β → Prop) → Prop} (h0 : Γ[0]? = some (.mx st Rf u')) (hct : ct.r = fun Γ z => ∃ u', Γ[0]? = some (.mx st Rf u') ∧ I u' ∧ k z) (he : XE X z Γ e ct.B wb) (hw : w → wb fun y => I u' ∧ k y) :
    XB X z ct Γ (.Return (some e) pos :: rest) w := xb_imp hw (xb_retM h0 hct he)
theorem y_newRg (i : Nat) {wk : α → Prop} (hN : X.N.Nodup) (hi : X.N[i]? = some x) (hx : Loc X.env.scope x) (he : XR X z Γ e A2 wa) (hw : w → wa fun v => Bnd v wk) (hn : ∀ R y, XB X z ct (Γ.set i (.rg R R true 0 A2 y)) rest (wk y))
    (hs : swapsWith e (some (.Name x p')) pos.line X.env = pure false := by rfl) (hf : X.fn x = true ∨ X.env.scope.names.lookup x = some .local := by first | exact .inl rfl | exact .inr rfl) :
    XB X z ct Γ (.Assign [.Name x p'] e pos :: rest) w := xb_imp hw (xb_newRg i hN hi hx he hn hs hf)
theorem y_callRg (i j : Nat) {R : Hp} {n : Bool} {c : Nat} {y : α} {wk : β → Prop} [nl : NoL B] (hj : Γ[j]? = some (.rg R R n c A2 y)) (hij : i ≠ j) (hN : X.N.Nodup) (hi : X.N[i]? = some x) (hx : Loc X.env.scope x) (he : XE X Z0 (noSt (Γ.set j (.fz A2.T y))) e B wb) (hw : w → wb fun v => Bnd v wk)
    (hn : ∀ y', XB X z ct (Γ.set i (.fz B y')) rest (wk y'))
    (hs : swapsWith e (some (.Name x p')) pos.line X.env = pure false := by rfl) (hf : X.fn x = true ∨ X.env.scope.names.lookup x = some .local := by first | exact .inl rfl | exact .inr rfl) :
    XB X z ct Γ (.Assign [.Name x p'] e pos :: rest) w := xb_imp hw (xb_callRg i j hj hij hN hi hx he hn hs hf)
theorem y_mutI (i : Nat) {R R' : Hp} {n : Bool} {c : Nat} {y : α} {wk : Prop} {f : ρ → Int} {j : Nat} (hΓ : Γ[i]? = some (.rg R R' n c A2 y)) (hp : XP X z Γ R R' a (t2M R2) wr) (hr : RowAt2 R2 j (t2N tyI) f) (hb : XE X z Γ b tyI (fun k => k (j : Int))) (he : XE X z Γ e tyI wi) (hw : w → wi fun _ => wr fun _ => wk)
    (hn : ∀ R', XB X z ct (Γ.set i (.rg R R' n c A2 y)) rest wk)
    (hs : swapsWithSole [.Subscript a b p2] e pos.line X.env = pure false := by rfl) (hw2 : swappedStores [.Subscript a b p2] e X.env = pure none := by rfl)
    (h1 : (assignEach [.Subscript a b p2] X.env).map (·.2) = [assign (.Subscript a b p2) X.env] := by rfl)
    (ha : ∀ v, assign (.Subscript a b p2) X.env v = (do
      let ov ← holding [v] (eval a X.env)
      let iv ← holding [v, ov] (eval b X.env)
      standAt p2
      holding [v, ov, iv] (setItem ov iv v)
      release [v, ov, iv] []) := by intro _; rfl) :
    XB X z ct Γ (.Assign [.Subscript a b p2] e pos :: rest) w := xb_imp hw (xb_mutI i hΓ hp hr hb he hn hs hw2 h1 ha)
theorem y_mutS (i : Nat) {R R' : Hp} {n : Bool} {c : Nat} {y : α} {wk : Prop} {f : ρ → Str} {j : Nat} (hΓ : Γ[i]? = some (.rg R R' n c A2 y)) (hp : XP X z Γ R R' a (t2M R2) wr) (hr : RowAt2 R2 j (t2N tyS) f) (hb : XE X z Γ b tyI (fun k => k (j : Int))) (he : XE X z Γ e tyS ws) (hw : w → ws fun _ => wr fun _ => wk)
    (hn : ∀ R', XB X z ct (Γ.set i (.rg R R' n c A2 y)) rest wk)
    (hs : swapsWithSole [.Subscript a b p2] e pos.line X.env = pure false := by rfl) (hw2 : swappedStores [.Subscript a b p2] e X.env = pure none := by rfl)
    (h1 : (assignEach [.Subscript a b p2] X.env).map (·.2) = [assign (.Subscript a b p2) X.env] := by rfl)
    (ha : ∀ v, assign (.Subscript a b p2) X.env v = (do
      let ov ← holding [v] (eval a X.env)
      let iv ← holding [v, ov] (eval b X.env)
      standAt p2
      holding [v, ov, iv] (setItem ov iv v)
      release [v, ov, iv] []) := by intro _; rfl) :
    XB X z ct Γ (.Assign [.Subscript a b p2] e pos :: rest) w := xb_imp hw (xb_mutS i hΓ hp hr hb he hn hs hw2 h1 ha)
theorem y_mutApp (i : Nat) {R R' : Hp} {n : Bool} {c : Nat} {y : α} {wk : Prop} {C2 : Ty2 γ} {wc : (List γ → Prop) → Prop} {apos cpos : Pos} (n' : Bool) (hΓ : Γ[i]? = some (.rg R R' n c A2 y)) (hp : XP X z Γ R R' a (t2L C2) wc) (he : XE X z Γ e B wb)
    (hf : ∀ G v w xs, n' = true → n = true → A2.rep G R v y → (t2L C2).rep G R w xs → (∀ a u, R a = some u → G a = none) → v ≠ w) (hnn : n' = true → n = true) (hw : w → wc fun xs => wb fun _ => xs.length + c < sizeLine ∧ wk) (hn : ∀ R', XB X z ct (Γ.set i (.rg R R' n' (c + 1) A2 y)) rest wk)
    (hs : starEach (e :: []) X.env = (false, eval e X.env) :: starEach [] X.env := by rfl)
    (hbase : attributeBase a "append" X.env (eval a X.env) = eval a X.env := by rfl)
    (hfew : ((backTo cpos (starEach (e :: []) X.env)).all (fun x => !x.1) && (backToKw cpos (keywordEach [] X.env)).all (fun x => x.1.isSome)
      && decide ((e :: []).length + ([] : List Keyword).length + (if ([] : List Keyword).isEmpty then 0 else 1) < 30)) = true := by rfl)
    (hline : (apos.endLine == cpos.line) = true := by rfl) (hsw : swapsWith (.Call (.Attribute a "append" apos) [e] [] cpos) none pos.line X.env = pure false := by rfl) :
    XB X z ct Γ (.Expr (.Call (.Attribute a "append" apos) [e] [] cpos) pos :: rest) w := xb_imp hw (xb_mutApp i n' hΓ hp he hf hnn hn hs hbase hfew hline hsw)
end
end Zk
/-! TL14: comprehensions, as values and as what a local name is set to. -/
namespace Zk
open PySem PySem.Spec L2
section
variable {X : Cx} {z : Zs} {Γ Γ1 : List Sl} {ct : Ct} {a b c e o tg iter elt : Expr} {es ifs : List Expr} {scope : Scope} {rest body orelse : List Stmt} {α β γ τ ρ φ : Type} {A : Ty α} {B : Ty β} {A2 : Ty2 α} {B2 : Ty2 β} {pos p p' p2 : Pos} {x m : Str} {w : Prop}
  {wl : (List α → Prop) → Prop}
/-- a comprehension's reading -/
def RLc (X : Cx) (elt tg iter : Expr) (ifs : List Expr) (scope : Scope) (own : List (Str × Nat)) : TE :=
  tLc (RI X tg iter) (fun v σ H Q => ∀ s H0 C cl fp, RG (X.blk s H0 scope (compEnvC scope cl C X.env) fp) tg v σ H Q)
    (fun σ H Q => ∀ s H0 C cl fp, ∃ t, PTs (X.blk s H0 scope (compEnvC scope cl C X.env) fp) ifs t ∧ t σ H Q)
    (fun σ H Q => ∀ s H0 C cl fp, RE (X.blk s H0 scope (compEnvC scope cl C X.env) fp) elt σ H Q) (own.map (·.2))
theorem pe_rlc {own : List (Str × Nat)} (hc : X.calm = true) (hN : X.N.Nodup) (ok : BlkOk X.N X.env.scope scope own) (hs : ∀ x, foldedSetIterable iter X.env x = pure x) : PE X (.ListComp elt [⟨tg, iter, ifs, 0⟩] scope pos) (RLc X elt tg iter ifs scope own) :=
  pe_lc hc hN ri ok (fun s H C cl fp => ⟨fun pins s' σ' H' v u Q I r h => rg.run pins s' σ' H' v u Q I r (h s H C cl fp)⟩)
    (fun s H C cl fp => ⟨fun pins s' σ' H' Q I h => by obtain ⟨t, h1, h2⟩ := h s H C cl fp; exact h1.run pins s' σ' H' Q I h2⟩)
    (fun s H C cl fp => ⟨fun pins s' σ' H' Q I h => re.run pins s' σ' H' Q I (h s H C cl fp)⟩) hs
theorem ps_rlc {own : List (Str × Nat)} {i : Nat} {y : Str} {py spos : Pos} (hc : X.calm = true) (hN : X.N.Nodup) (ok : BlkOk X.N X.env.scope scope own) (hs : ∀ x, foldedSetIterable iter X.env x = pure x) (hy : X.N[i]? = some y) (hyl : X.env.scope.names.lookup y = some .local)
    (hsw : swapsWith (.ListComp elt [⟨tg, iter, ifs, 0⟩] scope pos) (some (.Name y py)) spos.line X.env = pure true) : PS X (.Assign [.Name y py] (.ListComp elt [⟨tg, iter, ifs, 0⟩] scope pos) spos) (tAsg (RLc X elt tg iter ifs scope own) (gName i)) :=
  ps_setLc hc hN hy hyl hsw ri ok (fun s H C cl fp => ⟨fun pins s' σ' H' v u Q I r h => rg.run pins s' σ' H' v u Q I r (h s H C cl fp)⟩)
    (fun s H C cl fp => ⟨fun pins s' σ' H' Q I h => by obtain ⟨t, h1, h2⟩ := h s H C cl fp; exact h1.run pins s' σ' H' Q I h2⟩)
    (fun s H C cl fp => ⟨fun pins s' σ' H' Q I h => re.run pins s' σ' H' Q I (h s H C cl fp)⟩) hs
/-- e is a comprehension -/
structure IsLc (X : Cx) (e elt tg iter : Expr) (ifs : List Expr) (scope : Scope) (own : List (Str × Nat)) (pos : Pos) : Prop where
  e : e = .ListComp elt [⟨tg, iter, ifs, 0⟩] scope pos
  hc : X.calm = true
  hN : X.N.Nodup
  ok : BlkOk X.N X.env.scope scope own
  hs : ∀ x, foldedSetIterable iter X.env x = pure x
def XFC (X : Cx) (z : Zs) (Γ : List Sl) (e : Expr) {β : Type} (B : Ty β) (w : (List β → Prop) → Prop) : Prop :=
  ∃ (elt tg iter : Expr) (ifs : List Expr) (scope : Scope) (own : List (Str × Nat)) (pos : Pos), IsLc X e elt tg iter ifs scope own pos ∧
    ∀ (G0 H0 : Hp) (σ : L2.St) (G H : Hp) (k : List β → Prop) (Q : VK), Ev z G0 H0 G H σ Γ → w k →
      (∀ G' H' q vs xs, Wd z G' H' → Stp z G H G' H' → H q = none → G' q = none → H' q = some (.lst vs) → Paired (B.rep G') vs xs → k xs → Q (.ref q) H') → RLc X elt tg iter ifs scope own σ H Q
def XRC (X : Cx) (z : Zs) (Γ : List Sl) (e : Expr) {β : Type} (B2 : Ty2 β) (w : (β → Prop) → Prop) : Prop :=
  ∃ (elt tg iter : Expr) (ifs : List Expr) (scope : Scope) (own : List (Str × Nat)) (pos : Pos), IsLc X e elt tg iter ifs scope own pos ∧
    ∀ (G0 H0 : Hp) (σ : L2.St) (G H : Hp) (k : β → Prop) (Q : VK), Ev z G0 H0 G H σ Γ → w k →
      (∀ G' H' R v y, Wd z G' H' → Stp z G H G' H' → Nw R H G' H' → B2.rep G' R v y → k y → Q v H') → RLc X elt tg iter ifs scope own σ H Q
theorem xf_c {w : (List β → Prop) → Prop} (h : XFC X z Γ e B w) : XF X z Γ e B w := fun G0 H0 σ G H k Q E hw hk => by
  obtain ⟨elt, tg, iter, ifs, scope, own, pos, i, h⟩ := h
  have ie := i.e
  subst ie
  exact ⟨_, pe_rlc i.hc i.hN i.ok i.hs, h G0 H0 σ G H k Q E hw hk⟩
theorem xr_c {w : (β → Prop) → Prop} (h : XRC X z Γ e B2 w) : XR X z Γ e B2 w := fun G0 H0 σ G H k Q E hw hk => by
  obtain ⟨elt, tg, iter, ifs, scope, own, pos, i, h⟩ := h
  have ie := i.e
  subst ie
  exact ⟨_, pe_rlc i.hc i.hN i.ok i.hs, h G0 H0 σ G H k Q E hw hk⟩
theorem xfc_imp {w w' : (List β → Prop) → Prop} (h : XFC X z Γ e B w) (f : ∀ k, w' k → w k) : XFC X z Γ e B w' := by
  obtain ⟨elt, tg, iter, ifs, scope, own, pos, i, h⟩ := h
  exact ⟨elt, tg, iter, ifs, scope, own, pos, i, fun G0 H0 σ G H k Q E hw hk => h G0 H0 σ G H k Q E (f k hw) hk⟩
theorem xrc_imp {w w' : (β → Prop) → Prop} (h : XRC X z Γ e B2 w) (f : ∀ k, w' k → w k) : XRC X z Γ e B2 w' := by
  obtain ⟨elt, tg, iter, ifs, scope, own, pos, i, h⟩ := h
  exact ⟨elt, tg, iter, ifs, scope, own, pos, i, fun G0 H0 σ G H k Q E hw hk => h G0 H0 σ G H k Q E (f k hw) hk⟩
/-- name = [..], the name a local of its own -/
theorem y_setC (i : Nat) {wl : (List β → Prop) → Prop} {wk : List β → Prop} (hi : X.N[i]? = some x) (hx : X.env.scope.names.lookup x = some .local) (he : XFC X z Γ e B wl) (hw : w → wl fun v => Bnd v wk) (hn : ∀ y, XB X z ct (Γ.set i (.ml B y)) rest (wk y))
    (hs : swapsWith e (some (.Name x p')) pos.line X.env = pure true := by rfl) : XB X z ct Γ (.Assign [.Name x p'] e pos :: rest) w := by
  obtain ⟨elt, tg, iter, ifs, scope, own, lpos, q, h⟩ := he
  have ie := q.e
  subst ie
  exact fun G0 H0 D σ G H M E hw0 => ⟨_, pss_cons (ps_rlc q.hc q.hN q.ok q.hs hi hx hs) rs, h G0 H0 σ G H wk (fun v H' => RS X rest D (σ.set i (some v)) H') E (hw hw0) fun G1 H1 q vs xs W1 S1 nq gq hq r h1 => hn xs G0 H0 D _ G1 H1 M (E.takeOwn W1 S1 i nq (SlOk.ml_of E nq gq hq r)) h1⟩
theorem y_newRgC (i : Nat) {wa : (α → Prop) → Prop} {wk : α → Prop} (hi : X.N[i]? = some x) (hx : X.env.scope.names.lookup x = some .local) (he : XRC X z Γ e A2 wa) (hw : w → wa fun v => Bnd v wk) (hn : ∀ R y, XB X z ct (Γ.set i (.rg R R true 0 A2 y)) rest (wk y))
    (hs : swapsWith e (some (.Name x p')) pos.line X.env = pure true := by rfl) : XB X z ct Γ (.Assign [.Name x p'] e pos :: rest) w := by
  obtain ⟨elt, tg, iter, ifs, scope, own, lpos, q, h⟩ := he
  have ie := q.e
  subst ie
  exact fun G0 H0 D σ G H M E hw0 => ⟨_, pss_cons (ps_rlc q.hc q.hN q.ok q.hs hi hx hs) rs, h G0 H0 σ G H wk (fun v H' => RS X rest D (σ.set i (some v)) H') E (hw hw0) fun G1 H1 R v y W1 S1 n1 r h1 => hn R y G0 H0 D _ G1 H1 M ((E.step W1 S1).setOwn i (S := .rg R R true 0 A2 y) (o := some v)
    ⟨v, rfl, r, Skel.refl R n1.l, fun a u ha => ⟨n1.g a u ha, E.znew (n1.nw a u ha), E.h0new (n1.nw a u ha), n1.h a u ha⟩, fun _ => FixL.refl R v⟩ fun j T o' l hj h1 h2 h3 h4 => by
      have h3 : R l ≠ none := h3
      obtain ⟨u, o⟩ := (E.sl j T _ h1 h2).tracked h4
      cases e : R l with
      | none => exact h3 e
      | some w =>
        have := n1.nw l w e
        rw [o.h] at this
        cases this) h1⟩
variable {is : List Nat} {ΓT : α → List Sl} {wt : α → (Bool → Prop) → Prop} {we : α → (β → Prop) → Prop}
theorem xc_lc (own : List (Str × Nat)) (hc : X.calm = true) (hN : X.N.Nodup) (hi : XI X z Γ tg iter A wl) (ok : blkC X.N X.env.scope scope own = true)
    (hg : ∀ (s : Shared) (H : Hp) (C : Addr) (cl : List (Str × Addr)) (fp : List Addr), XG (X.blk s H scope (compEnvC scope cl C X.env) fp) z (wipeG Γ (own.map (·.2))) tg A is ΓT) (his : ∀ i ∈ is, i ∈ own.map (·.2))
    (ht : ∀ (s : Shared) (H : Hp) (C : Addr) (cl : List (Str × Addr)) (fp : List Addr) (x : α), XTs (X.blk s H scope (compEnvC scope cl C X.env) fp) z (ΓT x) ifs (wt x))
    (he : ∀ (s : Shared) (H : Hp) (C : Addr) (cl : List (Str × Addr)) (fp : List Addr) (x : α), XE (X.blk s H scope (compEnvC scope cl C X.env) fp) z (ΓT x) elt B (we x)) (hs : ∀ x, foldedSetIterable iter X.env x = pure x := by intro _; rfl) :
    XFC X z Γ (.ListComp elt [⟨tg, iter, ifs, 0⟩] scope pos) B (fun k => wl fun xs => WLc xs wt we k) := ⟨_, _, _, _, _, own, _, ⟨rfl, hc, hN, blkOk_by ok, hs⟩, fun G0 H0 σ G H k Q E hw hk => by
  refine hi G0 H0 σ G H _ _ E hw fun G1 H1 J' xs W1 S1 ok ⟨hsz, I, i0, it, ie⟩ => fun q nq => ?_
  have nq0 : H q = none := by
    cases e : H q with
    | none => rfl
    | some o =>
      obtain ⟨o', e'⟩ := S1.t q o e
      rw [nq] at e'
      cases e'
  have E1 := E.step W1 S1
  refine ⟨fun i m H' => ∃ G' vs acc, i ≤ xs.length ∧ m = xs.length - i ∧ Wd z G' H' ∧ Stp z G1 H1 G' H' ∧ G' q = none ∧ H' q = some (.lst vs) ∧ Paired (B.rep G') vs acc ∧ acc.length ≤ i ∧ I i acc,
    ⟨_, G1, [], [], Nat.zero_le _, rfl, W1.own nq, Stp.own nq, W1.gh.free nq, upd_same, .nil, Nat.le_refl _, i0⟩, ?_⟩
  rintro i m H' ⟨G', vs, acc, hi, rfl, W', S', gq, hq, r, hla, hI⟩
  have E' := E1.step W' S'
  by_cases hlt : i < xs.length
  · refine .inr ⟨ok.go i xs[i] G' H' W' S'.g (by simp [hlt]), fun H3 => ∃ G3 vs acc, Wd z G3 H3 ∧ Stp z G1 H1 G3 H3 ∧ G3 q = none ∧ H3 q = some (.lst vs) ∧ Paired (B.rep G3) vs acc ∧ acc.length ≤ i + 1 ∧ I (i + 1) acc,
      fun H3 ⟨G3, vs3, acc3, W3, S3, g3, h3, r3, l3, q3⟩ => ⟨xs.length - (i + 1), by omega, G3, vs3, acc3, hlt, rfl, W3, S3, g3, h3, r3, l3, q3⟩, fun v H3 y => ?_⟩
    obtain ⟨G3, W3, S3, r3⟩ := ok.yld i xs[i] G' H' v H3 W' S'.g (by simp [hlt]) y
    have E3 := (E'.step W3 S3).wipe (own.map (·.2))
    intro s Hb C cl fp
    refine hg s Hb C cl fp G0 H0 _ G3 H3 v xs[i] _ E3 r3 fun σ4 E4 hσ => ⟨(wipe_eq his hσ).trans wipe_wipe, ?_⟩
    intro s Hb C cl fp
    refine ht s Hb C cl fp xs[i] G0 H0 σ4 G3 H3 _ _ E4 (it i xs[i] acc (by simp [hlt]) hI) fun G5 H5 b W5 S5 g5 => ?_
    have S35 := S3.trans S5
    have gq5 : G5 q = none := S35.n q _ hq gq
    have hq5 : H5 q = some (.lst vs) := S35.h q _ (E1.znew nq) hq
    cases b with
    | false =>
      exact ⟨G5, vs, acc, W5, S'.trans S35, gq5, hq5, Paired.mono (fun _ _ => B.mono S35.g) r, Nat.le_succ_of_le hla, g5⟩
    | true =>
      intro s Hb C cl fp
      refine he s Hb C cl fp xs[i] G0 H0 σ4 G5 H5 _ _ (E4.step W5 S5) g5 fun G6 H6 u y W6 S6 r6 g6 => ?_
      have S36 := S35.trans S6
      have gq6 : G6 q = none := S36.n q _ hq gq
      have hq6 : H6 q = some (.lst vs) := S36.h q _ (E1.znew nq) hq
      have st : Stp z G1 H1 G6 (upd H6 q (.lst (vs ++ [u]))) := by
        have S16 := S'.trans S36
        have ne : ∀ {a : Addr} {w : HO}, H1 a = some w → a ≠ q := fun h => ne_of_none h nq
        exact ⟨S16.g, fun a w hz h => by rw [upd_ne (ne h)]; exact S16.h a w hz h, S16.n, fun a w h => by
          obtain ⟨o', e⟩ := S16.t a w h
          exact ⟨o', by rw [upd_ne (ne h)]; exact e⟩⟩
      exact ⟨vs, hq6, by rw [r.length]; omega, G6, vs ++ [u], acc ++ [y], W6.set gq6 (E1.znew nq), st, gq6, upd_same, Paired.app (Paired.mono (fun _ _ => B.mono S36.g) r) (.cons r6 .nil), by rw [List.length_append]; show acc.length + 1 ≤ _; omega, g6⟩
  · have e : i = xs.length := by omega
    subst e
    exact .inl ⟨ok.stop G' H' W' S'.g, hk G' H' q vs acc W' (S1.trans S') nq0 gq hq r (ie acc hI)⟩⟩
theorem xc_rlc (own : List (Str × Nat)) (hc : X.calm = true) (hN : X.N.Nodup) (hi : XI X z Γ tg iter A wl) (ok : blkC X.N X.env.scope scope own = true)
    (hg : ∀ (s : Shared) (H : Hp) (C : Addr) (cl : List (Str × Addr)) (fp : List Addr), XG (X.blk s H scope (compEnvC scope cl C X.env) fp) z (wipeG Γ (own.map (·.2))) tg A is ΓT) (his : ∀ i ∈ is, i ∈ own.map (·.2))
    (he : ∀ (s : Shared) (H : Hp) (C : Addr) (cl : List (Str × Addr)) (fp : List Addr) (x : α), XR (X.blk s H scope (compEnvC scope cl C X.env) fp) z (ΓT x) elt B2 (we x)) (hs : ∀ x, foldedSetIterable iter X.env x = pure x := by intro _; rfl) :
    XRC X z Γ (.ListComp elt [⟨tg, iter, [], 0⟩] scope pos) (t2L B2) (fun k => wl fun xs => WLr xs we k) := ⟨_, _, _, _, _, own, _, ⟨rfl, hc, hN, blkOk_by ok, hs⟩, fun G0 H0 σ G H k Q E hw hk => by
  refine hi G0 H0 σ G H _ _ E hw fun G1 H1 J' xs W1 S1 ok ⟨hsz, I, i0, it, ie⟩ => fun q nq => ?_
  have nq0 : H q = none := stp_none S1 nq
  have E1 := E.step W1 S1
  have zq : z.at_ ≠ some q := E1.znew nq
  refine ⟨fun i m H' => ∃ G' R vs acc, i ≤ xs.length ∧ m = xs.length - i ∧ Wd z G' H' ∧ Stp z G1 H1 G' H' ∧ G' q = none ∧ H' q = some (.lst vs) ∧ R q = none ∧ Nw R H G' H' ∧ Paired (B2.rep G' R) vs acc ∧ acc.length ≤ i ∧ I i acc,
    ⟨_, G1, noHp, [], [], Nat.zero_le _, rfl, W1.own nq, Stp.own nq, W1.gh.free nq, upd_same, rfl, .nil, .nil, Nat.le_refl _, i0⟩, ?_⟩
  rintro i m H' ⟨G', R, vs, acc, hi, rfl, W', S', gq, hq, rq, nw, r, hla, hI⟩
  have E' := E1.step W' S'
  by_cases hlt : i < xs.length
  · refine .inr ⟨ok.go i xs[i] G' H' W' S'.g (by simp [hlt]), fun H3 => ∃ G3 R vs acc, Wd z G3 H3 ∧ Stp z G1 H1 G3 H3 ∧ G3 q = none ∧ H3 q = some (.lst vs) ∧ R q = none ∧ Nw R H G3 H3 ∧ Paired (B2.rep G3 R) vs acc ∧ acc.length ≤ i + 1 ∧ I (i + 1) acc,
      fun H3 ⟨G3, R3, vs3, acc3, W3, S3, g3, h3, rq3, nw3, r3, l3, q3⟩ => ⟨xs.length - (i + 1), by omega, G3, R3, vs3, acc3, hlt, rfl, W3, S3, g3, h3, rq3, nw3, r3, l3, q3⟩, fun v H3 y => ?_⟩
    obtain ⟨G3, W3, S3, r3⟩ := ok.yld i xs[i] G' H' v H3 W' S'.g (by simp [hlt]) y
    have E3 := (E'.step W3 S3).wipe (own.map (·.2))
    intro s Hb C cl fp
    refine hg s Hb C cl fp G0 H0 _ G3 H3 v xs[i] _ E3 r3 fun σ4 E4 hσ => ⟨(wipe_eq his hσ).trans wipe_wipe, ?_⟩
    intro s Hb C cl fp
    refine ⟨_, pts_nil, ?_⟩
    show ∀ s H0 C cl fp, _
    intro s Hb C cl fp
    refine he s Hb C cl fp xs[i] G0 H0 σ4 G3 H3 _ _ E4 (it i xs[i] acc (by simp [hlt]) hI) fun G6 H6 R6 u y W6 S6 n6 r6 g6 => ?_
    have S36 := S3.trans S6
    have gq6 : G6 q = none := S36.n q _ hq gq
    have hq6 : H6 q = some (.lst vs) := S36.h q _ zq hq
    have hq3 : H3 q = some (.lst vs) := S3.h q _ zq hq
    have n3 : Nw R H G3 H3 := ⟨nw.nw, fun a w e => S3.n a w (nw.h a w e) (nw.g a w e), fun a w e => S3.h a w (fun es => E.stH a es (nw.nw a w e)) (nw.h a w e), nw.l⟩
    obtain ⟨n7, s1, s2⟩ := Nw.join W3 ((S1.trans S').trans S3) S6 n3 E.stH n6
    have r6q : R6 q = none := by
      cases e : R6 q with
      | none => rfl
      | some w =>
        have := n6.nw q w e
        rw [hq3] at this
        cases this
    have jq : jn R R6 q = none := by unfold jn; rw [r6q]; exact rq
    have st : Stp z G1 H1 G6 (upd H6 q (.lst (vs ++ [u]))) := by
      have S16 := S'.trans S36
      have ne : ∀ {a : Addr} {w : HO}, H1 a = some w → a ≠ q := fun h => ne_of_none h nq
      exact ⟨S16.g, fun a w hz h => by rw [upd_ne (ne h)]; exact S16.h a w hz h, S16.n, fun a w h => by
        obtain ⟨o', e⟩ := S16.t a w h
        exact ⟨o', by rw [upd_ne (ne h)]; exact e⟩⟩
    have n8 : Nw (jn R R6) H G6 (upd H6 q (.lst (vs ++ [u]))) := ⟨n7.nw, n7.g, fun a w e => by
      have ne : a ≠ q := fun z => by rw [z, jq] at e; cases e
      rw [upd_ne ne]
      exact n7.h a w e, n7.l⟩
    exact ⟨vs, hq6, by rw [r.length]; omega, G6, _, vs ++ [u], acc ++ [y], W6.set gq6 zq, st, gq6, upd_same, jq, n8, Paired.app (Paired.mono (fun _ _ => B2.mono S36.g s1) r) (.cons (B2.mono (Same.refl _) s2 r6) .nil), by rw [List.length_append]; show acc.length + 1 ≤ _; omega, g6⟩
  · have e : i = xs.length := by omega
    subst e
    refine .inl ⟨ok.stop G' H' W' S'.g, ?_⟩
    have n9 : Nw (upd R q (.lst vs)) H G' H' := by
      have at_ : ∀ p u, upd R q (.lst vs) p = some u → (p = q ∧ u = .lst vs) ∨ (p ≠ q ∧ R p = some u) := fun p u e => by
        by_cases h : p = q
        · subst h; rw [upd_same] at e; exact .inl ⟨rfl, (Option.some.inj e).symm⟩
        · rw [upd_ne h] at e; exact .inr ⟨h, e⟩
      refine ⟨fun p u e => ?_, fun p u e => ?_, fun p u e => ?_, fun p u e => (at_ p u e).elim (fun h => ⟨vs, h.2⟩) fun h => nw.l p u h.2⟩
      · rcases at_ p u e with ⟨e1, _⟩ | ⟨_, e⟩
        · rw [e1]; exact nq0
        · exact nw.nw p u e
      · rcases at_ p u e with ⟨e1, _⟩ | ⟨_, e⟩
        · rw [e1]; exact gq
        · exact nw.g p u e
      · rcases at_ p u e with ⟨e1, e2⟩ | ⟨h, e⟩
        · rw [e1, e2]; exact hq
        · exact nw.h p u e
    exact hk G' H' _ _ acc W' (S1.trans S') n9 ⟨q, vs, rfl, upd_same, Paired.mono (fun _ _ => B2.mono (Same.refl _) (same_new rq)) r⟩ (ie acc hI)⟩
theorem xi_mono (hi : XI X z Γ tg iter A wl) : XI X z Γ tg iter A (fun k1 => ∃ k0, wl k0 ∧ ∀ xs, k0 xs → k1 xs) := fun G0 H0 σ G H k R E ⟨k0, h, f⟩ hk => hi G0 H0 σ G H k0 R E h fun G' H' J xs W S ok q => hk G' H' J xs W S ok (f xs q)
theorem xc_lcm {f : α → β} (own : List (Str × Nat)) (hc : X.calm = true) (hN : X.N.Nodup) (hi : XI X z Γ tg iter A wl) (ok : blkC X.N X.env.scope scope own = true)
    (hg : ∀ (s : Shared) (H : Hp) (C : Addr) (cl : List (Str × Addr)) (fp : List Addr), XG (X.blk s H scope (compEnvC scope cl C X.env) fp) z (wipeG Γ (own.map (·.2))) tg A is ΓT) (his : ∀ i ∈ is, i ∈ own.map (·.2))
    (he : ∀ (s : Shared) (H : Hp) (C : Addr) (cl : List (Str × Addr)) (fp : List Addr) (x : α), XE (X.blk s H scope (compEnvC scope cl C X.env) fp) z (ΓT x) elt B (we x)) (h2 : we = fun x kk => kk (f x)) (hs : ∀ x, foldedSetIterable iter X.env x = pure x := by intro _; rfl) :
    XFC X z Γ (.ListComp elt [⟨tg, iter, [], 0⟩] scope pos) B (fun k => wl fun xs => xs.length < sizeLine ∧ k (xs.map f)) := by
  subst h2
  exact xfc_imp (xc_lc own hc hN (xi_mono hi) ok hg his (fun _ _ _ _ _ _ => xts_nil) he hs) fun k h => ⟨_, h, fun xs q => WLc_map q.1 q.2⟩
theorem xc_lcf {f : α → β} {g : α → Bool} (own : List (Str × Nat)) (hc : X.calm = true) (hN : X.N.Nodup) (hi : XI X z Γ tg iter A wl) (ok : blkC X.N X.env.scope scope own = true)
    (hg : ∀ (s : Shared) (H : Hp) (C : Addr) (cl : List (Str × Addr)) (fp : List Addr), XG (X.blk s H scope (compEnvC scope cl C X.env) fp) z (wipeG Γ (own.map (·.2))) tg A is ΓT) (his : ∀ i ∈ is, i ∈ own.map (·.2))
    (ht : ∀ (s : Shared) (H : Hp) (C : Addr) (cl : List (Str × Addr)) (fp : List Addr) (x : α), XTs (X.blk s H scope (compEnvC scope cl C X.env) fp) z (ΓT x) ifs (wt x))
    (he : ∀ (s : Shared) (H : Hp) (C : Addr) (cl : List (Str × Addr)) (fp : List Addr) (x : α), XE (X.blk s H scope (compEnvC scope cl C X.env) fp) z (ΓT x) elt B (we x)) (h1 : wt = fun x kk => kk (g x)) (h2 : we = fun x kk => kk (f x)) (hs : ∀ x, foldedSetIterable iter X.env x = pure x := by intro _; rfl) :
    XFC X z Γ (.ListComp elt [⟨tg, iter, ifs, 0⟩] scope pos) B (fun k => wl fun xs => xs.length < sizeLine ∧ k ((xs.filter g).map f)) := by
  subst h1 h2
  exact xfc_imp (xc_lc own hc hN (xi_mono hi) ok hg his ht he hs) fun k h => ⟨_, h, fun xs q => WLc_filter q.1 q.2⟩
theorem xc_rlcm {f : α → β} (own : List (Str × Nat)) (hc : X.calm = true) (hN : X.N.Nodup) (hi : XI X z Γ tg iter A wl) (ok : blkC X.N X.env.scope scope own = true)
    (hg : ∀ (s : Shared) (H : Hp) (C : Addr) (cl : List (Str × Addr)) (fp : List Addr), XG (X.blk s H scope (compEnvC scope cl C X.env) fp) z (wipeG Γ (own.map (·.2))) tg A is ΓT) (his : ∀ i ∈ is, i ∈ own.map (·.2))
    (he : ∀ (s : Shared) (H : Hp) (C : Addr) (cl : List (Str × Addr)) (fp : List Addr) (x : α), XR (X.blk s H scope (compEnvC scope cl C X.env) fp) z (ΓT x) elt B2 (we x)) (h2 : we = fun x kk => kk (f x)) (hs : ∀ x, foldedSetIterable iter X.env x = pure x := by intro _; rfl) :
    XRC X z Γ (.ListComp elt [⟨tg, iter, [], 0⟩] scope pos) (t2L B2) (fun k => wl fun xs => xs.length < sizeLine ∧ k (xs.map f)) := by
  subst h2
  exact xrc_imp (xc_rlc own hc hN (xi_mono hi) ok hg his he hs) fun k h => ⟨_, h, fun xs q => WLr_map q.1 q.2⟩
end
end Zk
/-! TLP: plain tools for the printed readings. -/
namespace Zk
open PySem PySem.Spec L2
theorem Jn_by {τ : Type} {wj : τ → Prop} {g : (τ → Prop) → Prop} (P : τ → Prop) (h1 : ∀ s, P s → wj s) (h2 : ∀ j, (∀ s, P s → j s) → g j) : Jn wj g := h2 wj h1
theorem lg_le {n k : Nat} (h : n < 2 ^ k) : n.log2 ≤ k := by
  by_cases h0 : n = 0
  · subst h0; simp
  · exact Nat.le_of_lt ((Nat.log2_lt h0).mpr h)
theorem cmul_of {i j : Int} (a b : Nat) (hi : i.natAbs < 2 ^ a) (hj : j.natAbs < 2 ^ b) (h : a + b < 1000000) : CMulW i j := by
  have h1 := lg_le hi
  have h2 := lg_le hj
  show i.natAbs.log2 + j.natAbs.log2 < 1000000
  omega
/-- a walk, by an invariant -/
theorem WFor_by {α τ : Type} {xs : List α} {s0 : τ} {wb : (τ → Prop) → τ → α → Prop} {wk : τ → Prop} (I : Nat → τ → Prop) (h0 : I 0 s0) (h1 : ∀ i x s, xs[i]? = some x → I i s → wb (I (i + 1)) s x) (h2 : ∀ s, I xs.length s → wk s) : WFor xs s0 wb wk := ⟨I, h0, h1, h2⟩
end Zk
/-! TL15: more of dicts. -/
namespace Zk
section
open PySem PySem.Spec PyProof.Rows L2
def tSumVals (td : TE) : TE := fun σ H Q => td σ H fun x H1 => ∃ (a : Addr) (kvs : List (Key × V)) (is : List Int), x = V.ref a ∧ Rd H1 a (.dK kvs) ∧ kvs.map (·.2) = is.map V.int ∧ Q (.int is.sum) H1
theorem pe_sumVals {X : Cx} {o : Expr} {p pos apos mpos : Pos} {td : TE} (hc : X.calm = true) (hg : Gl X "sum") (hm : X.mg "sum" = none) (hd : PE X o td) (hbase : attributeBase o "values" X.env (eval o X.env) = eval o X.env := by rfl) (hline : (apos.endLine == mpos.line) = true := by rfl)
    (hse : starEach [Expr.Call (.Attribute o "values" apos) [] [] mpos] X.env = [(false, eval (Expr.Call (.Attribute o "values" apos) [] [] mpos) X.env)] := by rfl) :
    PE X (.Call (.Name "sum" p) [.Call (.Attribute o "values" apos) [] [] mpos] [] pos) (tSumVals td) := by
  refine ⟨fun pins s σ H Q I h => ?_⟩
  refine wpAny_Call_Name_kw (ld_blt I hg hm (u := .builtin "sum") (by first | rfl | decide +kernel) ?_ (by first | decide +kernel | decide) (by first | decide +kernel | decide))
  rw [hse]
  refine PySem.callWith_builtin1 (wpAny_Call_method0_late hbase hline (thn (hd.run pins s σ H _ I h) fun v s1 ⟨x, H1, I1, r1, a, kvs, is, ex, ha, hv, q⟩ => ?_))
  subst ex
  obtain rfl : v = Value.ref a := r1
  obtain ⟨_, hsys, vs, rel, dof⟩ := dk_rd I1.hok ha
  obtain ⟨ep, dat⟩ := dof.dictAt
  have dat' := dat
  obtain ⟨ob, es, ho, ex, hdat, hko, hpr, hnd⟩ := dat'
  refine ⟨"dict", "dict.values", F.plainAttrs_dict, F.slot_dict_values, F.type_dict_values, ⟨ob, ho, ex.1⟩, fun b e => ?_, Calls.callWith_builtin rfl (PySem.evalArgs_none ?_)⟩
  · cases e
    exact ⟨ob, ho, ex.2.1⟩
  refine call_meetsIn F.slot_dict_values ⟨ob, ho, ex.1⟩ F.entry_dict_values (F.args_dict_values_1 _) (meets_dict_values (mixKind X.prog X.w) a hsys) ⟨⟨vs, dof⟩, ?_⟩
  have k1 : ∀ b u, s1.heap.get? b = some u → (s1.heap.push { cls := .type "dict_values", data := .fields #[.ref a] }).get? b = some u := fun b u e => Heap.get?_push_of_some _ e
  have dat1 : (s1.heap.push { cls := .type "dict_values", data := .fields #[.ref a] }).DictAt (mixKind X.prog X.w) a vs ep := dat.keep k1
  have hlv : vs.length = is.length := by
    have e1 := congrArg List.length hv
    rw [List.length_map, List.length_map] at e1
    rw [← e1]
    exact (KV.length rel).symm
  have hval : ∀ (i : Nat) (v : Value), (∃ k, vs[i]? = some (k, v)) → ∃ t, v = Value.int (is.getD i 0) t := fun i v ⟨k, hk⟩ => by
    obtain ⟨x, h1, h2⟩ := KV.at' rel hk
    have e1 : (kvs.map (·.2))[i]? = some x := by rw [List.getElem?_map, h1] <;> rfl
    rw [hv, List.getElem?_map] at e1
    obtain ⟨j, hj, e2⟩ := Option.map_eq_some_iff.mp e1
    subst e2
    obtain ⟨t, e3⟩ := h2
    refine ⟨t, ?_⟩
    rw [e3, List.getD_eq_getElem?_getD, hj] <;> rfl
  have hlt : a < s1.heap.objs.size := Heap.lt_size ho
  have hsz : (s1.heap.push { cls := .type "dict_values", data := .fields #[.ref a] }).objs.size = s1.heap.objs.size + 1 := Heap.size_push _ _
  have W := Walks.dictValues (knd := mixKind X.prog X.w) (A := X.A.in1) (I.ok.hd hc) (s1.heap.push { cls := .type "dict_values", data := .fields #[.ref a] }).objs.size a (by rw [hsz]; exact Nat.ne_of_lt (Nat.lt_succ_of_lt hlt)) vs ep
  refine call_sum_walkAnyS (wpAny_pyIter_values (v := s1.heap.objs.size) (d := a) ⟨_, Heap.get?_push_size _ rfl, rfl, rfl⟩ dat1 ?_)
  refine ⟨_, _, _, _, vs.length, _, _, fun i => is.getD i 0, rfl, W.toS,
    ⟨⟨_, Heap.get?_push_size _ rfl, rfl, rfl⟩, dat1.keep fun b u e => Heap.get?_push_of_some _ e⟩, fun b hb => ?_, hval, fun s' t' hm => ?_⟩
  · show b < ((s1.heap.push _).push _).objs.size
    rw [Heap.size_push, Heap.size_push]
    rw [hsz] at hb
    rcases List.mem_cons.mp hb with e | hb
    · rw [e]
      exact Nat.lt_succ_self _
    · have e : b = a := List.mem_singleton.mp hb
      rw [e]
      exact Nat.lt_succ_of_lt (Nat.lt_succ_of_lt hlt)
  · have e : preSum (fun i => is.getD i 0) vs.length = is.sum := by rw [PyProof.Rows.preSum_getD, hlv, List.take_length]
    rw [e, Moved.eq_with hm]
    refine ⟨.int _, H1, I1.kept (t' := s'.toks) fun b u e => hm.heap b u (fun hmem => ?_) (Heap.get?_push_of_some _ (k1 b u e)), ⟨t', rfl⟩, q⟩
    have e1 : b = (s1.heap.push { cls := .type "dict_values", data := .fields #[.ref a] }).objs.size := List.mem_singleton.mp hmem
    have e2 := Heap.lt_size e
    rw [hsz] at e1
    rw [e1] at e2
    exact absurd e2 (Nat.not_lt.mpr (Nat.le_succ _))
end
section
open PySem PySem.Spec L2
variable {X : Cx} {z : Zs} {Γ Γ1 : List Sl} {ct : Ct} {a b c e o tg iter : Expr} {es : List Expr} {rest body orelse : List Stmt} {α β γ τ ρ φ : Type} {A : Ty α} {B : Ty β} {R : Row ρ} {Rf : Row φ} {pos p p' p2 apos mpos : Pos} {x y m : Str} {w : Prop}
  {wa : (α → Prop) → Prop} {wb : (β → Prop) → Prop} {wd : (List (Str × α) → Prop) → Prop} {wi : (Int → Prop) → Prop} {wo : (φ → Prop) → Prop}
/-! ### dicts -/
def keys {α : Type} (d : List (Str × α)) : List Str := d.map (·.1)
theorem kv_vals {G : Hp} : ∀ {ks : List (Key × V)} {d : List (Str × Int)}, Paired (kvR tyI G) ks d → ks.map (·.2) = (d.map (·.2)).map V.int
  | _, _, .nil => rfl
  | _, _, .cons (a := k) (b := e) r t => by rw [List.map_cons, List.map_cons, List.map_cons, kv_vals t, show k.2 = V.int e.2 from r.2]
theorem kv_keys {G : Hp} : ∀ {ks : List (Key × V)} {d : List (Str × α)}, Paired (kvR A G) ks d → ks.map (·.1) = (keys d).map Sum.inr
  | _, _, .nil => rfl
  | _, _, .cons (a := k) (b := e) r t => by
    show k.1 :: _ = Sum.inr e.1 :: _
    rw [r.1.1]
    exact congrArg _ (kv_keys t)
theorem kv_sok {G : Hp} : ∀ {ks : List (Key × V)} {d : List (Str × α)}, Paired (kvR A G) ks d → ∀ x ∈ keys d, sOk x = true
  | _, _, .nil => fun _ h => by cases h
  | _, _, .cons (b := e) r t => fun x h => (List.mem_cons.mp (show x ∈ e.1 :: keys _ from h)).elim (fun q => q ▸ r.1.2) (kv_sok t x)
theorem xe_sumV (hc : X.calm = true) (hm : X.mg "sum" = none) {wd : (List (Str × Int) → Prop) → Prop} (h : XD X z Γ a tyI wd) (hg : Gl X "sum" := by rfl) (hbase : attributeBase a "values" X.env (eval a X.env) = eval a X.env := by rfl) (hline : (apos.endLine == mpos.line) = true := by rfl)
    (hse : starEach [Expr.Call (.Attribute a "values" apos) [] [] mpos] X.env = [(false, eval (Expr.Call (.Attribute a "values" apos) [] [] mpos) X.env)] := by rfl) :
    XE X z Γ (.Call (.Name "sum" p) [.Call (.Attribute a "values" apos) [] [] mpos] [] pos) tyI (fun k => wd fun d => k ((d.map (·.2)).sum)) := fun G0 H0 σ G H k Q E hw hk =>
  ⟨_, pe_sumVals hc hg hm re hbase hline hse, h G0 H0 σ G H _ _ E hw fun G1 H1 q ks xs W1 S1 sq r h1 => ⟨q, ks, _, rfl, sq.r, kv_vals r, hk G1 H1 _ _ W1 S1 rfl h1⟩⟩
theorem xf_sortD (hc : X.calm = true) (hm : X.mg "sorted" = none) (h : XD X z Γ a A wd) (hg : Gl X "sorted" := by rfl) (hs : starEach (a :: []) X.env = (false, eval a X.env) :: starEach [] X.env := by rfl) :
    XF X z Γ (.Call (.Name "sorted" p) [a] [] pos) tyS (fun k => wd fun d => d.length < 64 ∧ k (sortS (keys d))) := fun G0 H0 σ G H k Q E hw hk =>
  ⟨_, pe_callB (call_sortedD hc) hg hm (by decide +kernel) (pa_cons re pa_nil hs) (by decide) (by decide) hs rfl, h G0 H0 σ G H _ _ E hw fun G1 H1 q ks xs W1 S1 sq r ⟨hl, h1⟩ => ⟨q, ks, keys xs, rfl, sq.r, kv_keys r, by unfold keys; rw [List.length_map]; exact hl, fun ys p hp hs' np => by
    rw [sortS_eq hp (sortedS_pw ys hs')]
    exact xf_last W1 S1 (pair_strs _ _ fun x hx => kv_sok r x ((sortS_perm _).mem_iff.mp hx)) h1 hk p np⟩⟩
theorem xf_listD (hc : X.calm = true) (hm : X.mg "list" = none) (i : Nat) {d : List (Str × α)} {x : Str} (hΓ : Γ[i]? = some (.md A d)) (hN : X.N[i]? = some x) (hv : Vis X.env.scope x) (hg : Gl X "list" := by rfl) (hs : starEach (.Name x p2 :: []) X.env = (false, eval (.Name x p2) X.env) :: starEach [] X.env := by rfl)
    (hd : (x == ("__debug__" : Str)) = false := by decide) (hcd : (x == ("__classdict__" : Str)) = false := by decide) : XF X z Γ (.Call (.Name "list" p) [.Name x p2] [] pos) tyS (fun k => k (keys d)) := fun G0 H0 σ G H k Q E hw hk => by
  obtain ⟨o, e, l, ks, rfl, r, q⟩ := E.at_ hΓ
  refine ⟨_, pe_callTy (call_list_dK hc) hg hm (by decide +kernel) (pa_cons (pe_var hN hv hd hcd) pa_nil hs) (by decide) (by decide) hs rfl, _, e, l, ks, rfl, r.h, ?_⟩
  have e2 : (ks.map fun kv => kV kv.1) = (keys d).map V.str := by
    have e3 := kv_keys q
    have e4 : (ks.map fun kv => kV kv.1) = (ks.map (·.1)).map kV := by rw [List.map_map]; rfl
    rw [e4, e3, List.map_map]
    rfl
  rw [e2]
  exact xf_last E.wd (Stp.refl _ _ _) (pair_strs _ _ (kv_sok q)) hw hk
theorem xe_bits (h : XE X z Γ a tyI wi) (hbase : attributeBase a "bit_length" X.env (eval a X.env) = eval a X.env := by rfl) (hline : (apos.endLine == pos.line) = true := by rfl) : XE X z Γ (.Call (.Attribute a "bit_length" apos) [] [] pos) tyI (fun k => wi fun x => k ((Builtin.Int.intBits x : Nat) : Int)) := fun G0 H0 σ G H k Q E hw hk =>
  ⟨_, pe_bits re hbase hline, h G0 H0 σ G H _ _ E hw fun G1 H1 v x W1 S1 r h1 => ⟨x, r, hk G1 H1 _ _ W1 S1 rfl h1⟩⟩
/-! ### a, b = c, d -/
theorem y_par (i j : Nat) {px py pt : Pos} {kt k2 : Nat} {pt2 : Pos} {wk : α → β → Prop} (hN : X.N.Nodup) (hi : X.N[i]? = some x) (hj : X.N[j]? = some y) (hij : i ≠ j) (hx : X.env.scope.names.lookup x = some .local) (hy : X.env.scope.names.lookup y = some .local) (hc : X.calm = true) (ha : XE X z Γ a A wa) (hb : XE X z Γ b B wb)
    (hw2 : swappedStores [.Tuple [.Name x px, .Name y py] kt pt] (.Tuple [a, b] k2 pt2) X.env = pure (some [x, y])) (hw : w → wa fun v => wb fun u => Bnd v fun v' => Bnd u fun u' => wk v' u') (hn : ∀ v u, XB X z ct ((Γ.set i (.fz A v)).set j (.fz B u)) rest (wk v u))
    (hs : swapsWithSole [.Tuple [.Name x px, .Name y py] kt pt] (.Tuple [a, b] k2 pt2) pos.line X.env = pure false := by rfl)
    (hs1 : starEach (a :: [b]) X.env = (false, eval a X.env) :: starEach [b] X.env := by rfl) (hs2 : starEach (b :: []) X.env = (false, eval b X.env) :: starEach [] X.env := by rfl) :
    XB X z ct Γ (.Assign [.Tuple [.Name x px, .Name y py] kt pt] (.Tuple [a, b] k2 pt2) pos :: rest) w := fun G0 H0 D σ G H M E hw0 =>
  ⟨_, pss_cons (ps_par hc hN hi hj hij hx hy (pa_cons re (pa_cons re pa_nil hs2) hs1) hw2 hs) rs, ha G0 H0 σ G H _ _ E (hw hw0) fun G1 H1 v1 x1 W1 S1 r1 h1 => hb G0 H0 σ G1 H1 _ _ (E.step W1 S1) h1 fun G2 H2 v2 x2 W2 S2 r2 h2 =>
    ⟨v1, v2, rfl, hn x1 x2 G0 H0 D _ G2 H2 M ((((E.step W1 S1).step W2 S2).fz i (A.mono S2.g r1)).fz j r2) h2⟩⟩
theorem y_augSub (i : Nat) {n : Int} {wk : Int → Prop} (hN : X.N.Nodup) (hi : X.N[i]? = some x) (hx : Loc X.env.scope x) (hΓ : Γ[i]? = some (.fz tyI n)) (he : XE X z Γ e tyI wi) (hw : w → wi fun y => Bnd (n - y) wk) (hn : ∀ y, XB X z ct (Γ.set i (.fz tyI y)) rest (wk y))
    (hf : X.fn x = true ∨ X.env.scope.names.lookup x = some .local := by first | exact .inl rfl | exact .inr rfl) :
    XB X z ct Γ (.AugAssign (.Name x p) .Sub e pos :: rest) w := fun G0 H0 D σ G H M E hw0 => by
  obtain ⟨ov, eo, v, rfl, r⟩ := E.at_ hΓ
  refine ⟨_, pss_cons (ps_aug hN hi hx re ip_sub hf) rs, v, eo, he G0 H0 σ G H _ _ E (hw hw0) fun G1 H1 u y W1 S1 ry g1 => ?_⟩
  exact ⟨n, y, r, ry, hn _ G0 H0 D _ G1 H1 M ((E.step W1 S1).fz i (show tyI.rep G1 (.int (n - y)) (n - y) from rfl)) g1⟩
/-! ### isinstance of one's own classes -/
structure Isi (K : PySem.W.Frag) (C : Addr) : Prop where
  cl : Cls K C
  ha : PySem.W.findIn K (.ref C) "__class__" = some (some (.builtin "object.__class__"))
  hn : PySem.W.specialIn K (.builtin "object.__class__") "__get__" = some (some (.builtin "getset_descriptor.__get__"))
  htk : PySem.W.takesIn K (.builtin "object.__class__") = some true
  hm : PySem.W.mroIn K C (.type "object") = some true
def isiB (K : PySem.W.Frag) (x : Str) : Bool := He.eqO (PySem.W.findIn K (.ref (He.ga K x)) "__class__") (some (some (.builtin "object.__class__"))) && (He.eqO (PySem.W.specialIn K (.builtin "object.__class__") "__get__") (some (some (.builtin "getset_descriptor.__get__"))) &&
  (decide (PySem.W.takesIn K (.builtin "object.__class__") = some true) && decide (PySem.W.mroIn K (He.ga K x) (.type "object") = some true)))
theorem isi_ok {K : PySem.W.Frag} {x : Str} (c : Cls K (He.ga K x)) (h : isiB K x = true) : Isi K (He.ga K x) := by
  unfold isiB at h
  obtain ⟨h1, h⟩ := He.ba h
  obtain ⟨h2, h⟩ := He.ba h
  obtain ⟨h3, h4⟩ := He.ba h
  exact ⟨c, He.eqO_ok h1, He.eqO_ok h2, of_decide_eq_true h3, of_decide_eq_true h4⟩
theorem kit_self {K : PySem.W.Frag} {C : Addr} : PySem.W.kitOne K (.ref C) (.ref C) = some true := by
  unfold PySem.W.kitOne
  rw [if_pos (by exact beq_self_eq_true _)]
theorem xe_isiO {C : Addr} {ns : List Str} (hm : X.mg "isinstance" = none) (hC : X.mg x = some (.ref C)) (i : Isi X.K C) (h : XE X z Γ a (tyO C ns Rf) wo) (hg : Gl X "isinstance" := by rfl) (hg2 : Gl X x := by rfl)
    (hs : starEach (a :: [.Name x p2]) X.env = (false, eval a X.env) :: starEach [.Name x p2] X.env := by rfl) (hs2 : starEach (.Name x p2 :: []) X.env = (false, eval (.Name x p2) X.env) :: starEach [] X.env := by rfl)
    (hpl : (backTo pos (starEach [.Name x p2] X.env)).any (·.1) = false := by rfl) (hd : (x == ("__debug__" : Str)) = false := by decide) :
    XE X z Γ (.Call (.Name "isinstance" p) [a, .Name x p2] [] pos) tyB (fun k => wo fun _ => k true) := fun G0 H0 σ G H k Q E hw hk =>
  ⟨_, pe_callB call_isi hg hm (by decide +kernel) (pa_cons re (pa_cons (pe_glob (v := .ref C) hg2 hC rfl hd) pa_nil hs2) hs) (by decide) (by decide) hs hpl, h G0 H0 σ G H _ _ E hw fun G1 H1 v y W1 S1 ⟨q, dx, vs, ev, hq, r⟩ h1 =>
    ⟨v, .ref C, _, _, true, rfl, .own C, by rw [ev]; exact .base (.ins (W1.of hq (fun _ => by intro z; cases z)) i.cl i.ha i.hn i.htk i.hm), kit_self, hk G1 H1 _ true W1 S1 rfl h1⟩⟩
end
end Zk
/-! TL16: == of data at any depth; regions asked and changed; the head with own facts. -/
namespace Zk
section
open PySem PySem.Spec L2
/-- data that == looks into -/
class DpTy {α : Type} (A : Ty α) where
  enc : α → PyData
  dep : Nat
  dp : ∀ {K : PySem.W.Frag} {z : Zs} {G H : Hp} {v : V} {x : α}, Wd z G H → A.rep G v x → Dp K H v (enc x) ∧ (enc x).canLay0 = true
  le : ∀ x, (enc x).depth ≤ dep
  ev : ∀ x y, PyData.eqv (enc x) (enc y) = true ↔ x = y
class DpRow {ρ : Type} (R : Row ρ) where
  enc : ρ → List PyData
  dep : Nat
  dp : ∀ {K : PySem.W.Frag} {z : Zs} {G H : Hp} {vs : List V} {x : ρ}, Wd z G H → R.rep G vs x → DpAll K H vs (enc x) ∧ PyData.canLayAll0 (enc x) = true
  le : ∀ x, PyData.depthAll (enc x) ≤ dep
  ev : ∀ x y, PyData.eqvAll (enc x) (enc y) = true ↔ x = y
variable {α β ρ : Type} {A : Ty α} {R : Row ρ}
instance : DpTy tyI := ⟨.int, 0, fun _ h => ⟨by rw [show _ = V.int _ from h]; exact .int _, rfl⟩, fun _ => Nat.le_refl _, fun x y => by simp [PyData.eqv]⟩
instance : DpTy tyB := ⟨.bool, 0, fun _ h => ⟨by rw [show _ = V.bl _ from h]; exact .bl _, rfl⟩, fun _ => Nat.le_refl _, fun x y => by simp [PyData.eqv]⟩
instance : DpTy tyS := ⟨.str, 0, fun _ h => ⟨by rw [show _ = V.str _ from h.1]; exact .str _, h.2⟩, fun _ => Nat.le_refl _, fun x y => by simp [PyData.eqv]⟩
theorem dpall [d : DpTy A] {K : PySem.W.Frag} {z : Zs} {G H : Hp} (W : Wd z G H) : ∀ {vs : List V} {xs : List α}, Paired (A.rep G) vs xs → DpAll K H vs (xs.map d.enc) ∧ PyData.canLayAll0 (xs.map d.enc) = true
  | _, _, .nil => ⟨.nil, rfl⟩
  | _, _, .cons r t => by
    obtain ⟨h1, h2⟩ := d.dp (K := K) W r
    obtain ⟨h3, h4⟩ := dpall W t
    exact ⟨.cons h1 h3, by rw [List.map_cons]; unfold PyData.canLayAll0; rw [h2, h4]; rfl⟩
theorem dple [d : DpTy A] : ∀ xs : List α, PyData.depthAll (xs.map d.enc) ≤ d.dep
  | [] => Nat.zero_le _
  | x :: xs => by
    rw [List.map_cons, PyData.depthAll]
    exact Nat.max_le.mpr ⟨d.le x, dple xs⟩
theorem dpev [d : DpTy A] : ∀ xs ys : List α, PyData.eqvAll (xs.map d.enc) (ys.map d.enc) = true ↔ xs = ys
  | [], [] => by simp [PyData.eqvAll]
  | [], _ :: _ => by simp [PyData.eqvAll]
  | _ :: _, [] => by simp [PyData.eqvAll]
  | x :: xs, y :: ys => by
    rw [List.map_cons, List.map_cons, PyData.eqvAll, Bool.and_eq_true, d.ev, dpev xs ys, List.cons.injEq]
instance [d : DpTy A] : DpTy (tyL A) := ⟨fun xs => .list (xs.map d.enc), d.dep + 1, fun W ⟨q, vs, e, hq, r⟩ => by
  obtain ⟨h1, h2⟩ := dpall W r
  exact ⟨by rw [e]; exact .lst (SqL.of (W.of hq nodl)) h1, by simpa [PyData.canLay0] using h2⟩, fun xs => by simp only [PyData.depth]; exact Nat.succ_le_succ (dple xs), fun x y => by simp only [PyData.eqv]; exact dpev x y⟩
instance [d : DpTy A] : DpTy (tyP A) := ⟨fun xs => .tuple (xs.map d.enc), d.dep + 1, fun W ⟨q, vs, e, hq, r⟩ => by
  obtain ⟨h1, h2⟩ := dpall W r
  exact ⟨by rw [e]; exact .tup (SqT.of (W.of hq nodt)) h1, by simpa [PyData.canLay0] using h2⟩, fun xs => by simp only [PyData.depth]; exact Nat.succ_le_succ (dple xs), fun x y => by simp only [PyData.eqv]; exact dpev x y⟩
instance : DpRow Row.nil := ⟨fun _ => [], 0, fun _ h => by rw [show _ = [] from h]; exact ⟨.nil, rfl⟩, fun _ => Nat.le_refl _, fun _ _ => by simp [PyData.eqvAll]⟩
instance [d : DpTy A] : DpRow (Row.one A) := ⟨fun x => [d.enc x], d.dep, fun W ⟨v, e, r⟩ => by
  obtain ⟨h1, h2⟩ := d.dp W r
  rw [e]
  exact ⟨.cons h1 .nil, by unfold PyData.canLayAll0; rw [h2]; rfl⟩, fun x => by
  rw [PyData.depthAll]
  exact Nat.max_le.mpr ⟨d.le x, Nat.zero_le _⟩, fun x y => by simp only [PyData.eqvAll, Bool.and_true]; exact d.ev x y⟩
instance [d : DpTy A] [r : DpRow R] : DpRow (Row.cons A R) := ⟨fun x => d.enc x.1 :: r.enc x.2, max d.dep r.dep, fun W ⟨v, us, e, h, t⟩ => by
  obtain ⟨h1, h2⟩ := d.dp W h
  obtain ⟨h3, h4⟩ := r.dp W t
  rw [e]
  exact ⟨.cons h1 h3, by unfold PyData.canLayAll0; rw [h2, h4]; rfl⟩, fun x => by
  rw [PyData.depthAll]
  exact Nat.max_le.mpr ⟨Nat.le_trans (d.le _) (Nat.le_max_left _ _), Nat.le_trans (r.le _) (Nat.le_max_right _ _)⟩, fun x y => by
  rw [PyData.eqvAll, Bool.and_eq_true, d.ev, r.ev]
  exact ⟨fun h => Prod.ext h.1 h.2, fun h => by rw [h]; exact ⟨rfl, rfl⟩⟩⟩
instance [r : DpRow R] : DpTy (tyT R) := ⟨fun x => .tuple (r.enc x), r.dep + 1, fun W ⟨q, vs, e, hq, h⟩ => by
  obtain ⟨h1, h2⟩ := r.dp W h
  exact ⟨by rw [e]; exact .tup (SqT.of (W.of hq nodt)) h1, by simpa [PyData.canLay0] using h2⟩, fun x => by simp only [PyData.depth]; exact Nat.succ_le_succ (r.le x), fun x y => by simp only [PyData.eqv]; exact r.ev x y⟩
instance [r : DpRow R] : DpTy (tyM R) := ⟨fun x => .list (r.enc x), r.dep + 1, fun W ⟨q, vs, e, hq, h⟩ => by
  obtain ⟨h1, h2⟩ := r.dp W h
  exact ⟨by rw [e]; exact .lst (SqL.of (W.of hq nodl)) h1, by simpa [PyData.canLay0] using h2⟩, fun x => by simp only [PyData.depth]; exact Nat.succ_le_succ (r.le x), fun x y => by simp only [PyData.eqv]; exact r.ev x y⟩
section
variable {X : Cx} {z : Zs} {Γ Γ1 : List Sl} {ct : Ct} {a b c e o tg iter : Expr} {es : List Expr} {rest body orelse : List Stmt} {γ τ φ : Type} {B : Ty β} {A2 : Ty2 α} {B2 : Ty2 β} {C2 : Ty2 γ} {R2 : Row2 ρ} {pos p p' p2 apos mpos : Pos} {x y m : Str} {w : Prop}
  {wa wa2 : (α → Prop) → Prop} {wb : (β → Prop) → Prop} {wi : (Int → Prop) → Prop} {wc : (Bool → Prop) → Prop}
theorem ev_dec [DecidableEq α] [d : DpTy A] (x y : α) : PyData.eqv (d.enc x) (d.enc y) = decide (x = y) := by
  by_cases h : x = y
  · rw [decide_eq_true h]; exact (d.ev x y).mpr h
  · rw [decide_eq_false h]
    cases q : PyData.eqv (d.enc x) (d.enc y) with
    | false => rfl
    | true => exact absurd ((d.ev x y).mp q) h
theorem shaped_of [d : DpTy A] (hd : d.dep ≤ 64) {x : α} (h : (d.enc x).canLay0 = true) : SeqAt.shaped (d.enc x) = true := by
  unfold SeqAt.shaped
  rw [h, decide_eq_true (Nat.le_trans (d.le x) hd)]
  rfl
theorem o2_eqD {K : PySem.W.Frag} [DecidableEq α] [d : DpTy A] (hd : d.dep ≤ 64) : Op2 z A A tyB (rEqD K) (fun x y k => k (decide (x = y))) := fun G H v u x y k Q W r1 r2 hw hk => by
  obtain ⟨h1, h2⟩ := d.dp (K := K) W r1
  obtain ⟨h3, h4⟩ := d.dp (K := K) W r2
  refine ⟨_, _, h1, h3, shaped_of hd h2, shaped_of hd h4, ?_⟩
  rw [ev_dec]
  exact hk G H _ _ W (Stp.refl _ _ _) rfl hw
theorem o2_neD {K : PySem.W.Frag} [DecidableEq α] [d : DpTy A] (hd : d.dep ≤ 64) : Op2 z A A tyB (rNeD K) (fun x y k => k (!decide (x = y))) := fun G H v u x y k Q W r1 r2 hw hk => by
  obtain ⟨h1, h2⟩ := d.dp (K := K) W r1
  obtain ⟨h3, h4⟩ := d.dp (K := K) W r2
  refine ⟨_, _, h1, h3, shaped_of hd h2, shaped_of hd h4, ?_⟩
  rw [ev_dec]
  exact hk G H _ _ W (Stp.refl _ _ _) rfl hw
theorem xt_eqD [DecidableEq α] [d : DpTy A] (hu : X.A.units + 64 < cLine) (ha : XE X z Γ a A wa) (hb : XE X z Γ b A wa2) (hd : d.dep ≤ 64 := by exact Nat.le_of_ble_eq_true rfl) : XT X z Γ (.Compare a [.Eq] [b] pos) (fun k => wa fun x => wa2 fun y => k (decide (x = y))) := xt_cmp (op_eqD hu) (o2_eqD hd) (nomark _) ha hb
theorem xt_neD [DecidableEq α] [d : DpTy A] (hu : X.A.units + 64 < cLine) (ha : XE X z Γ a A wa) (hb : XE X z Γ b A wa2) (hd : d.dep ≤ 64 := by exact Nat.le_of_ble_eq_true rfl) : XT X z Γ (.Compare a [.NotEq] [b] pos) (fun k => wa fun x => wa2 fun y => k (!decide (x = y))) := xt_cmp (op_neD hu) (o2_neD hd) (nomark _) ha hb
theorem xe_eqD [DecidableEq α] [d : DpTy A] (hu : X.A.units + 64 < cLine) (ha : XE X z Γ a A wa) (hb : XE X z Γ b A wa2) (hd : d.dep ≤ 64 := by exact Nat.le_of_ble_eq_true rfl) : XE X z Γ (.Compare a [.Eq] [b] pos) tyB (fun k => wa fun x => wa2 fun y => k (decide (x = y))) := xe_cmp (op_eqD hu) (o2_eqD hd) (nomark _) ha hb
theorem xe_neD [DecidableEq α] [d : DpTy A] (hu : X.A.units + 64 < cLine) (ha : XE X z Γ a A wa) (hb : XE X z Γ b A wa2) (hd : d.dep ≤ 64 := by exact Nat.le_of_ble_eq_true rfl) : XE X z Γ (.Compare a [.NotEq] [b] pos) tyB (fun k => wa fun x => wa2 fun y => k (!decide (x = y))) := xe_cmp (op_neD hu) (o2_neD hd) (nomark _) ha hb
/-! ### a region asked -/
theorem y_if1Rg (j : Nat) {R : Hp} {n : Bool} {cc : Nat} {y : α} {w1 w2 : Prop} (hj : Γ[j]? = some (.rg R R n cc A2 y)) (hc : XT X Z0 (noSt (Γ.set j (.fz A2.T y))) c wc) (hw : w → wc fun b => if b = true then w1 else w2) (h1 : XB X z { ct with n := fun _ => False } Γ body w1) (hr : XB X z ct Γ rest w2) : XB X z ct Γ (.If c body [] pos :: rest) w := fun G0 H0 D σ G H M E hw0 => by
  obtain ⟨ov, eo, v, rfl, r, k, q, f⟩ := E.at_ hj
  obtain ⟨sg, E2⟩ := E.freezeD (D := R) (S' := .fz A2.T y) hj eo (fun p hp => hp) q rfl ⟨v, rfl, A2.to (fun a u e => (q a u e).g) r⟩
  have M' : Meets z G0 H0 { D with nx := RS X rest D } { ct with n := fun _ => False } := ⟨fun _ _ _ _ _ q => q.elim, M.b, M.c, M.r⟩
  refine ⟨_, pss_cons (ps_if rt rs rs) rs, hc _ _ σ _ H _ _ E2.z0 (hw hw0) fun G1 H1 b W1 S1 g1 => ?_⟩
  obtain ⟨W, S⟩ := rg_back E hj W1 S1
  cases b with
  | true => exact h1 G0 H0 _ σ _ H1 M' (E.step W S) g1
  | false => exact ⟨_, pss_nil, hr G0 H0 D σ _ H1 M (E.step W S) g1⟩
/-- path[b] = e, one tuple for another -/
theorem y_mutT (i : Nat) {R R' : Hp} {n : Bool} {cc : Nat} {y : α} {wk : Prop} {Rt : Row ρ} {wl : (List ρ → Prop) → Prop} (hΓ : Γ[i]? = some (.rg R R' n cc A2 y)) (hp : XP X z Γ R R' a (t2L (t2N (tyT Rt))) wl) (hb : XE X z Γ b tyI wi) (he : XE X z Γ e B wb) (hw : w → wb fun _ => wl fun xs => wi fun j => 0 ≤ j ∧ j.toNat < xs.length ∧ wk)
    (hn : ∀ R', XB X z ct (Γ.set i (.rg R R' n cc A2 y)) rest wk)
    (hs : swapsWithSole [.Subscript a b p2] e pos.line X.env = pure false := by rfl) (hw2 : swappedStores [.Subscript a b p2] e X.env = pure none := by rfl)
    (h1 : (assignEach [.Subscript a b p2] X.env).map (·.2) = [assign (.Subscript a b p2) X.env] := by rfl)
    (ha : ∀ v, assign (.Subscript a b p2) X.env v = (do
      let ov ← holding [v] (eval a X.env)
      let iv ← holding [v, ov] (eval b X.env)
      standAt p2
      holding [v, ov, iv] (setItem ov iv v)
      release [v, ov, iv] []) := by intro _; rfl) :
    XB X z ct Γ (.Assign [.Subscript a b p2] e pos :: rest) w := fun G0 H0 D σ G H M E hw0 => by
  refine ⟨_, pss_cons (ps_asg re (pg_sub re re set_list ha) hs hw2 h1) rs, ?_⟩
  refine he G0 H0 σ G H _ _ E (hw hw0) fun G1 H1 u n1 W1 S1 ru g1 => ?_
  refine hp G0 H0 σ G1 H1 _ _ (E.step W1 S1) g1 fun G2 H2 v v' xs W2 S2 r kd g2 => ?_
  refine hb G0 H0 σ G2 H2 _ _ ((E.step W1 S1).step W2 S2) g2 fun G3 H3 iv j W3 S3 rj ⟨j0, j1, g3⟩ => ?_
  have E3 := ((E.step W1 S1).step W2 S2).step W3 S3
  obtain ⟨q, vs, ev, rq, p⟩ := r
  obtain ⟨vs', rq', sk, ow⟩ := (RgOk.of E3 hΓ).now rq
  have e1 := kd.lst q vs ev rq
  have hlv : vs.length = xs.length := p.length
  have hl : j.toNat < vs'.length := by have := sk.1.1; omega
  obtain ⟨w0, ew, rw0⟩ := Paired.at_ p (show xs[j.toNat]? = some xs[j.toNat] from by simp [j1])
  refine ⟨q, vs', j, j.toNat, by rw [e1, ev], rj, ow.h, ?_, ?_⟩
  · unfold ixN
    rw [if_pos (by omega), if_pos (by omega)]
  · have kd2 : Kd R w0 u := by
      obtain ⟨l, us, el, hl2, _⟩ := rw0
      rw [el]
      refine ⟨fun _ h => (nomatch h), fun _ h => (nomatch h), fun b2 vs2 h hR => ?_⟩
      injection h with h
      subst h
      obtain ⟨o, eo, v3, rfl, r3, sk3, ow3, f3⟩ := E3.at_ hΓ
      obtain ⟨vs3, e3, _⟩ := sk3.lst l vs2 hR
      have := (ow3 l _ e3).g
      have g2' : G3 l = some (.tup us) := S3.g l _ hl2
      rw [this] at g2'
      cases g2'
    exact hn _ G0 H0 D σ G3 _ M (E3.mutRg hΓ rq rq' (Nat.le_refl _) (sk.setAt ew kd2) fun v f r h => fix_set rq' List.length_set (f h)) g3
end
end
/-! ### the head with own facts -/
section
open PySem PySem.Spec PyProof.Rows L2 He
def obsX (ex : PySem.W.Frag → Bool) (fa : List Fa) (fn : List DefD) (K : PySem.W.Frag) : AlD × Bool := (obsD fa fn K, ex K)
def SaysX (ex : PySem.W.Frag → Bool) (fa : List Fa) (fn : List DefD) (K : PySem.W.Frag) : Prop := SaysD fa fn K ∧ ex K = true
def obsXG (n : Nat) (ex : PySem.W.Frag → Bool) (fa : List Fa) (fn : List DefD) (g : Addr → Option Obj) : AlD × Bool := obsX ex fa fn (frG g (asD g n))
def hookX (n : Nat) (ex : PySem.W.Frag → Bool) (fa : List Fa) (fn : List DefD) : PySem.W.Hook where
  α := AlD × Bool
  obs := fun s => obsXG n ex fa fn s.heap.get?
  val := fun _ => (valD fn, true)
  says := fun _ h => ∃ K : PySem.W.Frag, K.In h ∧ SaysX ex fa fn K
  of := fun _ _ e => ⟨_, frG_in, congrArg Prod.fst e, congrArg Prod.snd e⟩
  keeps := fun _ _ _ ⟨K, hK, c⟩ k => ⟨K, PySem.W.Frag.In.keeps hK k, c⟩
theorem obsXG_eq {n : Nat} {ex : PySem.W.Frag → Bool} {fa : List Fa} {fn : List DefD} {g : Addr → Option Obj} {s : Shared} (h : ∀ a, g a = s.heap.get? a) : obsXG n ex fa fn g = (hookX n ex fa fn).obs s := by
  have e : g = s.heap.get? := funext h
  rw [e] <;> rfl
end
end Zk
/-! TL17: list(a tuple of so many). -/
namespace Zk
open PySem PySem.Spec L2
/-- a row whose items are old things -/
class RowN {ρ : Type} (R : Row ρ) (R2 : outParam (Row2 ρ)) : Prop where
  to : ∀ {G Rg vs x}, R.rep G vs x → R2.rep G Rg vs x
  len : ∀ {G Rg vs x}, R2.rep G Rg vs x → vs.length = R.n
instance : RowN Row.nil Row2.nil := ⟨fun h => h, fun h => by rw [show _ = [] from h]; rfl⟩
instance {α : Type} {A : Ty α} : RowN (Row.one A) (Row2.one (t2N A)) := ⟨fun ⟨v, e, r⟩ => ⟨v, e, r⟩, fun ⟨v, e, _⟩ => by rw [e]; rfl⟩
instance {α ρ : Type} {A : Ty α} {R : Row ρ} {R2 : Row2 ρ} [h : RowN R R2] : RowN (Row.cons A R) (Row2.cons (t2N A) R2) := ⟨fun ⟨v, r, e, q, t⟩ => ⟨v, r, e, q, h.to t⟩, fun ⟨v, r, e, q, t⟩ => by
  rw [e, List.length_cons, h.len t]
  rfl⟩
section
variable {X : Cx} {z : Zs} {Γ : List Sl} {a : Expr} {ρ : Type} {R : Row ρ} {R2 : Row2 ρ} {p pos : Pos} {wr : (ρ → Prop) → Prop}
theorem xr_listT [n : RowN R R2] (hm : X.mg "list" = none) (h : XE X z Γ a (tyT R) wr) (hg : Gl X "list" := by rfl) (hs : starEach (a :: []) X.env = (false, eval a X.env) :: starEach [] X.env := by rfl) : XR X z Γ (.Call (.Name "list" p) [a] [] pos) (t2M R2) wr := fun G0 H0 σ G H k Q E hw hk =>
  ⟨_, pe_callTy call_list_of hg hm (by decide +kernel) (pa_cons re pa_nil hs) (by decide) (by decide) hs rfl, h G0 H0 σ G H _ _ E hw fun G1 H1 v x W1 S1 ⟨q, vs, ev, hq, r⟩ h1 => ⟨q, vs, by rw [ev], .inr (SqT.of (W1.of hq nodt)), fun l nl => by
    obtain ⟨n2, s2⟩ := (Nw.nil (H := H) (G' := G1) (H' := H1)).add (ws := vs) W1 S1 nl
    exact hk G1 _ _ _ x (W1.own nl) (S1.trans (Stp.own nl)) n2 ⟨l, vs, rfl, upd_same, n.to r⟩ h1⟩⟩
theorem xe_listT (hm : X.mg "list" = none) (h : XE X z Γ a (tyT R) wr) (hg : Gl X "list" := by rfl) (hs : starEach (a :: []) X.env = (false, eval a X.env) :: starEach [] X.env := by rfl) : XE X z Γ (.Call (.Name "list" p) [a] [] pos) (tyM R) wr := fun G0 H0 σ G H k Q E hw hk =>
  ⟨_, pe_callTy call_list_of hg hm (by decide +kernel) (pa_cons re pa_nil hs) (by decide) (by decide) hs rfl, h G0 H0 σ G H _ _ E hw fun G1 H1 v x W1 S1 ⟨q, vs, ev, hq, r⟩ h1 => ⟨q, vs, by rw [ev], .inr (SqT.of (W1.of hq nodt)), fun l nl =>
    hk _ _ _ x (W1.new nl) (S1.trans (Stp.new W1.gh nl)) ⟨l, vs, rfl, upd_same, R.mono (same_new (W1.gh.free nl)) r⟩ h1⟩⟩
end
end Zk
/-! TL18: calls with keywords, in the parameters' order. -/
namespace Zk
section
open PySem PySem.Spec PyProof.Rows L2
theorem Paired.app' {α β : Type} {F : α → β → Prop} : ∀ {l l' : List α} {m m' : List β}, PySem.Paired F l m → PySem.Paired F l' m' → PySem.Paired F (l ++ l') (m ++ m')
  | _, _, _, _, .nil, s => s
  | _, _, _, _, .cons r t, s => .cons r (Paired.app' t s)
theorem kbn_of {K : PySem.W.Frag} {x qual : Str} {params : Arguments} {body : List Stmt} {scope : Scope} {kws : List (Str × V)} {f : Addr} {fd : FuncData} {ps ks : List Str} {n : Nat} (F : FunD K x qual params body scope [] kws f fd)
    (h : ∀ (kV doc pm : Value) (an : Option Addr) (cdv ct : Value) (us ws : List Value), us.length = n → ws.length = ks.length → bindArgs (PySem.W.fnOf x qual params body scope .none kV doc pm an cdv ct) ⟨us, ks.zip ws⟩ = pure (ps.zip (us ++ ws))) :
    KBn K fd ps n ks (fun us ws => us ++ ws) (fun vs zs => vs ++ zs) := by
  obtain ⟨oc, od, dV, kV, doc, pm, an, cdv, ct, osl, rfl, lk, hcd, hD, hK⟩ := F.ex
  rcases hD with ⟨_, rfl⟩ | ⟨e, _⟩
  · exact ⟨fun s us ws X l1 l2 => .of_eq (h kV doc pm an cdv ct us ws l1 l2), fun r1 r2 => Zk.Paired.app' r1 r2⟩
  · exact absurd rfl e
/-- f(k = v, ..) -/
theorem pe_callK0 {X : Cx} {CX : CXT} {k : Nat} {f : Addr} {fd : FuncData} {ps ks : List Str} {sp : Sp} {E : XK} {x : Str} {p pos : Pos} {kws : List Keyword} {tk : TA} {g : List Value → List Value → List Value} {gV : List V → List V → List V} (F : FnOk X.prog X.w X.K X.mg X.base CX k f fd ps sp) (hr : Room k X.A) (hg : Gl X x) (hm : X.mg x = some (.ref f)) (hk : PySem.W.keepIn X.K (.ref f) = true) (hb : KBn X.K fd ps 0 ks g gV) (hx : Passes CX X E) (hkw : PK X kws tk)
    (hall : (backToKw pos (keywordEach kws X.env)).all (·.1.isSome) = true := by rfl) (hks : (backToKw pos (keywordEach kws X.env)).filterMap (·.1) = ks := by rfl) (hdb : (x == ("__debug__" : Str)) = false := by decide)
    (hpl : ((backTo pos (starEach [] X.env)).any (·.1) || (backToKw pos (keywordEach kws X.env)).any (·.1.isNone)) = false := by rfl) :
    PE X (.Call (.Name x p) [] kws pos) (tCallN 0 ks.length sp gV E tNil tk) := by
  refine ⟨fun pins s σ H Q I h => ?_⟩
  refine wpAny_Call_Name_kw (ld_glob I hg hm ?_ hdb)
  refine PySem.W.callWith_KW0 (h₀ := X.base) I.ok.mod.kin hk hall ?_ hpl
  refine thn (hkw.run pos pins s σ H _ I h) fun ws s2 ⟨zs, H2, I2, rz, l1, l2, q2⟩ => ⟨I2.kIn, ?_⟩
  rw [hks]
  exact run_fnN (us := []) (vs := []) F hr hb hx I2 .nil rz rfl l2 q2
end
open PySem PySem.Spec L2
def CleK (P : Program) (w : World) (K : PySem.W.Frag) (mg : Str → Option Value) (base : Heap) (x : Str) (n m : Nat) (ks : List Str) (sp : Sp) : Prop :=
  ∃ (f : Addr) (fd : FuncData) (ps : List Str), FnOk P w K mg base CX0 n f fd ps sp ∧ mg x = some (.ref f) ∧ PySem.W.keepIn K (.ref f) = true ∧ KBn K fd ps m ks (fun us ws => us ++ ws) (fun vs zs => vs ++ zs)
def CleIK (P : Program) (w : World) (K : PySem.W.Frag) (mg : Str → Option Value) (base : Heap) (x : Str) (C : Addr) (n m : Nat) (ks : List Str) (sp : Sp) : Prop :=
  ∃ (f : Addr) (fd : FuncData) (ps : List Str), FnOk P w K mg base CX0 n f fd ps sp ∧ Mk K C f ∧ mg x = some (.ref C) ∧ KBn K fd ps (m + 1) ks (fun us ws => us ++ ws) (fun vs zs => vs ++ zs)
def RK (X : Cx) (kws : List Keyword) : TA := fun σ H Q => ∃ t, PK X kws t ∧ t σ H Q
theorem rk {X : Cx} {kws : List Keyword} : PK X kws (RK X kws) := ⟨fun pos pins s σ H Q I ⟨_, hp, h⟩ => hp.run pos pins s σ H Q I h⟩
def XKw (X : Cx) (z : Zs) (Γ : List Sl) (kws : List Keyword) {ρ : Type} (R : Row ρ) (w : (ρ → Prop) → Prop) : Prop :=
  ∀ (G0 H0 : Hp) (σ : L2.St) (G H : Hp) (k : ρ → Prop) (Q : List V → Hp → Prop), Ev z G0 H0 G H σ Γ → w k → (∀ G' H' vs y, Wd z G' H' → Stp z G H G' H' → R.rep G' vs y → k y → Q vs H') → RK X kws σ H Q
/-- two rows as one -/
class RowApp {ρ1 ρ2 : Type} (R1 : Row ρ1) (R2 : Row ρ2) {ρ : outParam Type} (R : outParam (Row ρ)) (f : outParam (ρ1 → ρ2 → ρ)) : Prop where
  to : ∀ {G vs us x y}, R1.rep G vs x → R2.rep G us y → R.rep G (vs ++ us) (f x y)
instance {α ρ2 : Type} {A : Ty α} {R2 : Row ρ2} : RowApp (Row.one A) R2 (Row.cons A R2) (fun x y => (x, y)) := ⟨fun ⟨v, e, r⟩ q => ⟨v, _, by rw [e]; rfl, r, q⟩⟩
instance {α ρ1 ρ2 ρ : Type} {A : Ty α} {R1 : Row ρ1} {R2 : Row ρ2} {R : Row ρ} {f : ρ1 → ρ2 → ρ} [h : RowApp R1 R2 R f] : RowApp (Row.cons A R1) R2 (Row.cons A R) (fun x y => (x.1, f x.2 y)) := ⟨fun ⟨v, r, e, a, t⟩ q => ⟨v, _, by rw [e]; rfl, a, h.to t q⟩⟩
section
variable {X : Cx} {z : Zs} {Γ : List Sl} {a b c e o : Expr} {es : List Expr} {kws : List Keyword} {α β γ ρ ρ1 ρ2 φ : Type} {A : Ty α} {B : Ty β} {R : Row ρ} {R1 : Row ρ1} {R2 : Row ρ2} {f : ρ1 → ρ2 → ρ} {Rf : Row φ} {pos p kpos : Pos} {n : Nat} {x m : Str} {nm : Option Str} {C : Addr} {ns ks : List Str}
  {wa : (α → Prop) → Prop} {wr1 : (ρ1 → Prop) → Prop} {wr2 : (ρ2 → Prop) → Prop} {wr : (ρ → Prop) → Prop}
theorem xk_one (h : XE X z Γ e A wa) : XKw X z Γ [⟨nm, e, kpos⟩] (Row.one A) wa := fun G0 H0 σ G H k Q E hw hk =>
  ⟨_, pk_cons re pk_nil, h G0 H0 σ G H _ _ E hw fun G1 H1 v x W1 S1 r1 h1 => hk G1 H1 [v] x W1 S1 ⟨v, rfl, r1⟩ h1⟩
theorem xk_cons (h : XE X z Γ e A wa) (hr : XKw X z Γ kws R wr) : XKw X z Γ (⟨nm, e, kpos⟩ :: kws) (Row.cons A R) (fun k => wa fun x => wr fun y => k (x, y)) := fun G0 H0 σ G H k Q E hw hk =>
  ⟨_, pk_cons re rk, h G0 H0 σ G H _ _ E hw fun G1 H1 v x W1 S1 r1 h1 => hr G0 H0 σ G1 H1 _ _ (E.step W1 S1) h1 fun G2 H2 vs y W2 S2 r2 h2 =>
    hk G2 H2 (v :: vs) (x, y) W2 (S1.trans S2) ⟨v, vs, rfl, A.mono S2.g r1, r2⟩ h2⟩
theorem spP_use' {w : ρ → (β → Prop) → Prop} {G H G1 H1 : Hp} {vs : List V} {y : ρ} {k : β → Prop} {Q : VK} (W1 : Wd z G1 H1) (S1 : Stp z G H G1 H1) (r : R.rep G1 vs y) (hw : w y k)
    (hk : ∀ G' H' v y, Wd z G' H' → Stp z G H G' H' → B.rep G' v y → k y → Q v H') : spP R B w vs H1 Q E0 :=
  ⟨G1, y, k, W1.z0, r, hw, fun G' H' v y W' S' r' q => hk G' H' v y (W1.after0 W' S') (S1.trans S'.lift) r' q⟩
/-- f(k = v, ..) -/
theorem xe_callK0 {w : ρ → (β → Prop) → Prop} (F : CleK X.prog X.w X.K X.mg X.base x n 0 ks (spP R B w)) (hr : Room n X.A) (ha : XKw X z Γ kws R wr) (hlen : R.n = ks.length) (hg : Gl X x := by rfl)
    (hall : (backToKw pos (keywordEach kws X.env)).all (·.1.isSome) = true := by rfl) (hks : (backToKw pos (keywordEach kws X.env)).filterMap (·.1) = ks := by rfl) (hdb : (x == ("__debug__" : Str)) = false := by decide)
    (hpl : ((backTo pos (starEach [] X.env)).any (·.1) || (backToKw pos (keywordEach kws X.env)).any (·.1.isNone)) = false := by rfl) :
    XE X z Γ (.Call (.Name x p) [] kws pos) B (fun k => wr fun y => w y k) := fun G0 H0 σ G H k Q E hw hk => by
  obtain ⟨f, fd, ps, F, hm, hkp, hb⟩ := F
  exact ⟨_, pe_callK0 F hr hg hm hkp hb pass0 rk hall hks hdb hpl, ha G0 H0 σ G H _ _ E hw fun G1 H1 vs y W1 S1 r h1 => ⟨rfl, (R.len r).trans hlen, spP_use' W1 S1 r h1 hk⟩⟩
/-- f(e, .., k = v, ..) -/
theorem xe_callK {w : ρ → (β → Prop) → Prop} {mm : Nat} [ra : RowApp R1 R2 R f] (F : CleK X.prog X.w X.K X.mg X.base x n mm ks (spP R B w)) (hr : Room n X.A) (ha1 : XA X z Γ (e :: es) R1 wr1) (ha : XKw X z Γ kws R2 wr2) (hlen1 : R1.n = mm) (hlen : R2.n = ks.length) (hg : Gl X x := by rfl)
    (hall : (backToKw pos (keywordEach kws X.env)).all (·.1.isSome) = true := by rfl) (hks : (backToKw pos (keywordEach kws X.env)).filterMap (·.1) = ks := by rfl) (hdb : (x == ("__debug__" : Str)) = false := by decide) (he : starEach (e :: es) X.env = (false, eval e X.env) :: starEach es X.env := by rfl)
    (hpl : ((backTo pos (starEach (e :: es) X.env)).any (·.1) || (backToKw pos (keywordEach kws X.env)).any (·.1.isNone)) = false := by rfl) :
    XE X z Γ (.Call (.Name x p) (e :: es) kws pos) B (fun k => wr1 fun y1 => wr2 fun y2 => w (f y1 y2) k) := fun G0 H0 σ G H k Q E hw hk => by
  obtain ⟨f, fd, ps, F, hm, hkp, hb⟩ := F
  exact ⟨_, pe_callN F hr hg hm hkp hb pass0 (Zk.ra) rk hall hks hdb he hpl, ha1 G0 H0 σ G H _ _ E hw fun G1 H1 vs y1 W1 S1 r1 h1 => ha G0 H0 σ G1 H1 _ _ (E.step W1 S1) h1 fun G2 H2 zs y2 W2 S2 r2 h2 =>
    ⟨(R1.len r1).trans hlen1, (R2.len r2).trans hlen, spP_use' W2 (S1.trans S2) (ra.to (R1.mono S2.g r1) r2) h2 hk⟩⟩
/-- C(k = v, ..) -/
theorem xe_makeK0 {w : ρ → (φ → Prop) → Prop} (F : CleIK X.prog X.w X.K X.mg X.base x C n 0 ks (spI C ns R Rf w)) (hr : Room (n + 1) X.A) (ha : XKw X z Γ kws R wr) (hlen : R.n = ks.length) (hg : Gl X x := by rfl)
    (hall : (backToKw pos (keywordEach kws X.env)).all (·.1.isSome) = true := by rfl) (hks : (backToKw pos (keywordEach kws X.env)).filterMap (·.1) = ks := by rfl) (hdb : (x == ("__debug__" : Str)) = false := by decide)
    (hpl : ((backTo pos (starEach [] X.env)).any (·.1) || (backToKw pos (keywordEach kws X.env)).any (·.1.isNone)) = false := by rfl) :
    XE X z Γ (.Call (.Name x p) [] kws pos) (tyO C ns Rf) (fun k => wr fun y => w y k) := fun G0 H0 σ G H k Q E hw hk => by
  obtain ⟨f, fd, ps, F, M, hm, hb⟩ := F
  exact ⟨_, pe_makeK0 M F hr hg hm hb pass0 rk hall hks hdb hpl, ha G0 H0 σ G H _ _ E hw fun G1 H1 vs y W1 S1 r h1 => ⟨rfl, (R.len r).trans hlen, fun q dx nq nd ne =>
    ⟨q, dx, vs, G1, H1, y, k, rfl, rfl, nq, nd, ne, W1.z0, r, h1, fun G' H' y W' S' r' q' => ⟨rfl, hk G' H' _ y (W1.after0 W' S') (S1.trans S'.lift) r' q'⟩⟩⟩⟩
end
section
variable {P : Program} {w : World} {K : PySem.W.Frag} {mg : Str → Option Value} {base : Heap} {ρ β φ : Type} {R : Row ρ} {B : Ty β} {Rf : Row φ} {x qual : Str} {params : Arguments} {body : List Stmt} {scope : Scope} {f : Addr} {fd : FuncData} {N ps : List Str} {n : Nat} {C : Addr} {m : Str}
  {fsl : ρ → List Sl}
theorem fn_I {ns : List Str} {Γ0 : Addr → ρ → List Sl} {wf : ρ → (φ → Prop) → Prop} (F : FunD K "__init__" qual params body scope [] [] f fd) (S : FnScope N ps scope) (hn : R.n + 1 = ps.length) (hN : R.n + 1 ≤ N.length) (q : RowSl R fsl)
    (hΓ : ∀ p y, Γ0 p y = .ob p C [] :: (fsl y ++ List.replicate (N.length - (R.n + 1)) .no)) (hB : BodyI P w K mg base N qual scope body f n C ns Rf Γ0 wf) : FnOk P w K mg base CX0 (n + 1) f fd ps (spI C ns R Rf wf) := by
  refine F.ok S (fun vs H Q E h => ?_) (fun cdv A outer s H vs Q E hr h => ?_)
  · obtain ⟨p, dx, rs', G, Hb, y, k, e, _, _, _, _, _, r, _⟩ := h
    rw [e, List.length_cons, R.len r, hn]
  · obtain ⟨p, dx, rs', G, Hb, y, k, e, eH, np, nd, ne, W, r, hw, hk⟩ := h
    subst e eH
    refine ⟨_, PSs.nox rs, hB cdv A outer s _ E hr p y k G Hb _ _ G _ ⟨fun σ G' H' Γ E' ⟨fs, z, h0, hns, hR, kz⟩ => ?_, fun _ _ _ _ _ z => z.elim, fun _ _ _ _ _ z => z.elim, fun _ _ _ _ _ _ _ _ z => z.elim⟩ (by rw [hΓ]; exact ev_startI q W np nd ne r hN) hw⟩
    obtain ⟨o, eo, dx', vs', rfl, r', q'⟩ := E'.at_ h0
    have sg : Same G' (upd G' p (.ins C dx' vs')) := same_new r'.g
    have E2 := E'.freeze (S' := .no) h0 eo rfl r' rfl trivial
    obtain ⟨e1, e2⟩ := fz_split (FR.mono sg q')
    rw [hns] at e1
    exact hk _ H' z E2.wd E2.base ⟨p, dx', vs'.map (·.2), rfl, by rw [← e1]; exact upd_same, hR _ _ e2⟩ kz
end
end Zk
namespace Zk
open PySem PySem.Spec L2
/-! ### the text -/
def top (i : Nat) : Stmt := PySem.Challenge.pw_sourcestold_k00_tables.main.body.getD i (.Pass ⟨0, 0, 0, 0⟩)
abbrev FnE (K : PySem.W.Frag) (nm qual : Str) (s : Stmt) (at_ : Str × Option Str) : Prop := ∃ fd, FunD K nm qual (defArgs s) (defBody s) (defScope s) [] [] (He.fAd K at_) fd
def ns_Share : List Str := ["over", "under"]
def ns_Table : List Str := ["weights", "whole"]
theorem nd_Share : ns_Share.Nodup := by decide
theorem nd_Table : ns_Table.Nodup := by decide
abbrev tSt : Type := (List (Int)) × Int × Int × Int × Int
abbrev Rst : Row tSt := (Row.cons (tyL tyI) (Row.cons tyI (Row.cons tyI (Row.cons tyI (Row.one tyI)))))
/-- what holds of the law's state -/
def Ist (u : tSt) : Prop := 0 ≤ u.2.1 ∧ 0 ≤ u.2.2.1 ∧ 0 ≤ u.2.2.2.2 ∧ u.2.2.2.2 < 2147483647
/-- a drawn number: any below the limit -/
def w_law_draw (y : Int) (k : Int → Prop) : Prop := y.natAbs.log2 < 9000 ∧ ∀ r, 0 ≤ r → r < max y 1 → k r

abbrev s_is_integer : Stmt := top 10
abbrev s_Table___init__ : Stmt := inClass (top 12) 0
abbrev s_law_draw : Stmt := top 17
abbrev s_law_signs : Stmt := top 20
abbrev s_law_text : Stmt := top 21
abbrev s_law_others : Stmt := top 27
abbrev s_law_texts : Stmt := top 22
abbrev s_law_wide : Stmt := top 18
abbrev s_law_weight : Stmt := top 23
abbrev s_law_pairs : Stmt := top 24
abbrev s_law_start : Stmt := top 16
abbrev s_greatest_divisor : Stmt := top 6
abbrev s_Share___init__ : Stmt := inClass (top 8) 0
abbrev s_Table_weight_of : Stmt := inClass (top 12) 2
abbrev s_Table_share_of : Stmt := inClass (top 12) 3
abbrev s_Table_texts : Stmt := inClass (top 12) 1
abbrev s_law_integer : Stmt := top 14
abbrev s_law_gcd : Stmt := top 15
abbrev s_law_is : Stmt := top 19
abbrev s_law_weight_in : Stmt := top 25
abbrev s_law_table_is : Stmt := top 26
abbrev s_law_body : Stmt := top 28
abbrev s_law : Stmt := top 29
/-- what is known of the text -/
structure Txt (K : PySem.W.Frag) (mg : Str → Option Value) : Prop where
  f_is_integer : FnE K "_is_integer" "_is_integer" s_is_integer ("_is_integer", none)
  f_Table___init__ : FnE K "__init__" "Table.__init__" s_Table___init__ ("Table", some "__init__")
  f_law_draw : FnE K "_law_draw" "_law_draw" s_law_draw ("_law_draw", none)
  f_law_signs : FnE K "_law_signs" "_law_signs" s_law_signs ("_law_signs", none)
  f_law_text : FnE K "_law_text" "_law_text" s_law_text ("_law_text", none)
  f_law_others : FnE K "_law_others" "_law_others" s_law_others ("_law_others", none)
  f_law_texts : FnE K "_law_texts" "_law_texts" s_law_texts ("_law_texts", none)
  f_law_wide : FnE K "_law_wide" "_law_wide" s_law_wide ("_law_wide", none)
  f_law_weight : FnE K "_law_weight" "_law_weight" s_law_weight ("_law_weight", none)
  f_law_pairs : FnE K "_law_pairs" "_law_pairs" s_law_pairs ("_law_pairs", none)
  f_law_start : FnE K "_law_start" "_law_start" s_law_start ("_law_start", none)
  f_greatest_divisor : FnE K "greatest_divisor" "greatest_divisor" s_greatest_divisor ("greatest_divisor", none)
  f_Share___init__ : FnE K "__init__" "Share.__init__" s_Share___init__ ("Share", some "__init__")
  f_Table_weight_of : FnE K "weight_of" "Table.weight_of" s_Table_weight_of ("Table", some "weight_of")
  f_Table_share_of : FnE K "share_of" "Table.share_of" s_Table_share_of ("Table", some "share_of")
  f_Table_texts : FnE K "texts" "Table.texts" s_Table_texts ("Table", some "texts")
  f_law_integer : FnE K "_law_integer" "_law_integer" s_law_integer ("_law_integer", none)
  f_law_gcd : FnE K "_law_gcd" "_law_gcd" s_law_gcd ("_law_gcd", none)
  f_law_is : FnE K "_law_is" "_law_is" s_law_is ("_law_is", none)
  f_law_weight_in : FnE K "_law_weight_in" "_law_weight_in" s_law_weight_in ("_law_weight_in", none)
  f_law_table_is : FnE K "_law_table_is" "_law_table_is" s_law_table_is ("_law_table_is", none)
  f_law_body : FnE K "_law_body" "_law_body" s_law_body ("_law_body", none)
  f_law : FnE K "law" "law" s_law ("law", none)
  c_Share : Cls K (He.ga K "Share")
  c_Table : Cls K (He.ga K "Table")
  g_Share : mg "Share" = some (.ref (He.ga K "Share"))
  g_Table : mg "Table" = some (.ref (He.ga K "Table"))
  g_greatest_divisor : mg "greatest_divisor" = some (.ref (He.ga K "greatest_divisor"))
  g_is_integer : mg "_is_integer" = some (.ref (He.ga K "_is_integer"))
  g_law : mg "law" = some (.ref (He.ga K "law"))
  g_law_body : mg "_law_body" = some (.ref (He.ga K "_law_body"))
  g_law_draw : mg "_law_draw" = some (.ref (He.ga K "_law_draw"))
  g_law_gcd : mg "_law_gcd" = some (.ref (He.ga K "_law_gcd"))
  g_law_integer : mg "_law_integer" = some (.ref (He.ga K "_law_integer"))
  g_law_is : mg "_law_is" = some (.ref (He.ga K "_law_is"))
  g_law_others : mg "_law_others" = some (.ref (He.ga K "_law_others"))
  g_law_pairs : mg "_law_pairs" = some (.ref (He.ga K "_law_pairs"))
  g_law_signs : mg "_law_signs" = some (.ref (He.ga K "_law_signs"))
  g_law_start : mg "_law_start" = some (.ref (He.ga K "_law_start"))
  g_law_table_is : mg "_law_table_is" = some (.ref (He.ga K "_law_table_is"))
  g_law_text : mg "_law_text" = some (.ref (He.ga K "_law_text"))
  g_law_texts : mg "_law_texts" = some (.ref (He.ga K "_law_texts"))
  g_law_weight : mg "_law_weight" = some (.ref (He.ga K "_law_weight"))
  g_law_weight_in : mg "_law_weight_in" = some (.ref (He.ga K "_law_weight_in"))
  g_law_wide : mg "_law_wide" = some (.ref (He.ga K "_law_wide"))
  i_Share : Isi K (He.ga K "Share")
  k_Share : Mk K (He.ga K "Share") (He.ma K (He.ga K "Share") "__init__")
  k_Table : Mk K (He.ga K "Table") (He.ma K (He.ga K "Table") "__init__")
  l_abs : mg "abs" = none
  l_bool : mg "bool" = none
  l_enumerate : mg "enumerate" = none
  l_int : mg "int" = none
  l_isinstance : mg "isinstance" = none
  l_len : mg "len" = none
  l_list : mg "list" = none
  l_max : mg "max" = none
  l_min : mg "min" = none
  l_range : mg "range" = none
  l_sorted : mg "sorted" = none
  l_sum : mg "sum" = none
  l_tuple : mg "tuple" = none
  m_Table_share_of : Meth K (He.ga K "Table") "share_of" (He.ma K (He.ga K "Table") "share_of")
  m_Table_texts : Meth K (He.ga K "Table") "texts" (He.ma K (He.ga K "Table") "texts")
  m_Table_weight_of : Meth K (He.ga K "Table") "weight_of" (He.ma K (He.ga K "Table") "weight_of")
  n_Share_over : NoAttr K (He.ga K "Share") "over"
  n_Share_under : NoAttr K (He.ga K "Share") "under"
  n_Table_weights : NoAttr K (He.ga K "Table") "weights"
  n_Table_whole : NoAttr K (He.ga K "Table") "whole"
section
variable {P : Program} {w : World} {K : PySem.W.Frag} {mg : Str → Option Value} {base : Heap}
/-! _is_integer -/
theorem sc_is_integer : FnScope ["value"] ["value"] (defScope s_is_integer) := ⟨rfl, rfl, rfl, by decide +kernel, rfl, by decide +kernel, by decide +kernel⟩
def w_is_integer (y : Int) (k : Bool → Prop) : Prop :=
  k (true && (!false))
theorem fo_is_integer {fd : FuncData} (T : Txt K mg) (F : FunD K "_is_integer" "_is_integer" (defArgs s_is_integer) (defBody s_is_integer) (defScope s_is_integer) [] [] (He.fAd K ("_is_integer", none)) fd) : FnOk P w K mg base CX0 1 (He.fAd K ("_is_integer", none)) fd ["value"] (spP (Row.one tyI) tyB (w_is_integer)) :=
  fn_P (Γ0 := fun y => [.fz tyI y]) (kn := fun _ => False) F sc_is_integer rfl (Nat.le_of_ble_eq_true rfl) rsl_one (fun _ => rfl) (fun _ _ h => h.elim) (fun cdv A outer s H E hr y k => (y_ret (Γ := [.fz tyI y]) (xe_andp (xe_isi (r := true) T.l_isinstance T.l_int (by decide +kernel) (by decide +kernel) (xe_var 0 rfl rfl (.inl rfl))) (xe_one (xe_not (xe_isi (r := false) T.l_isinstance T.l_bool (by decide +kernel) (by decide +kernel) (xe_var 0 rfl rfl (.inl rfl))))) rfl) id))
theorem ok_is_integer (T : Txt K mg) : Cle P w K mg base "_is_integer" 1 (spP (Row.one tyI) tyB (w_is_integer)) :=
  let ⟨_, F⟩ := T.f_is_integer
  ⟨_, _, _, fo_is_integer T F, T.g_is_integer, F.kp, F.bindsN (fun _ _ _ _ _ _ us hl => match us, hl with | [_], _ => rfl)⟩
/-! Table.__init__ -/
theorem sc_Table___init__ : FnScope ["self", "pairs", "weights", "at", "text", "weight"] ["self", "pairs"] (defScope s_Table___init__) := ⟨rfl, rfl, rfl, by decide +kernel, rfl, by decide +kernel, by decide +kernel⟩
def w_Table___init__ (y : (List (Str × Int))) (k : ((List (Str × (Int))) × Int) → Prop) : Prop :=
  WFor (enumA y) ([] : List (Str × (Int))) (fun (nx3 : ((List (Str × (Int)))) → Prop) (s1 : (List (Str × (Int)))) x2 => w_is_integer x2.2.2 (fun r5 => if ((!r5) || ((decide (x2.2.2 < (1 : Int))) || ((look s1 x2.2.1).isSome))) = true then (False) else ((s1).length < sizeLine ∧ ((Bnd (put s1 x2.2.1 x2.2.2) fun weights_6 => nx3 weights_6))))) (fun (s1 : (List (Str × (Int)))) => (Bnd s1 fun y7 => (Bnd ((s1.map (·.2)).sum) fun y8 => k (y7, y8))))
theorem fo_Table___init__ {fd : FuncData} (T : Txt K mg) (F : FunD K "__init__" "Table.__init__" (defArgs s_Table___init__) (defBody s_Table___init__) (defScope s_Table___init__) [] [] (He.fAd K ("Table", some "__init__")) fd) : FnOk P w K mg base CX0 2 (He.fAd K ("Table", some "__init__")) fd ["self", "pairs"] (spI (He.ga K "Table") ns_Table (Row.one (tyL (tyT (Row.cons tyS (Row.one tyI))))) (Row.cons (tyD tyI) (Row.one tyI)) (w_Table___init__)) :=
  fn_I (Γ0 := fun p y => [.ob p (He.ga K "Table") [], .fz (tyL (tyT (Row.cons tyS (Row.one tyI)))) y, .no, .no, .no, .no]) F sc_Table___init__ rfl (Nat.le_of_ble_eq_true rfl) rsl_one (fun _ _ => rfl) (fun cdv A outer s H E hr p y k => (xb_newD (Γ := [.ob p (He.ga K "Table") [], .fz (tyL (tyT (Row.cons tyS (Row.one tyI)))) y, .no, .no, .no, .no]) 2 tyI sc_Table___init__.nd rfl (.inl rfl) (y_for (Γ := [.ob p (He.ga K "Table") [], .fz (tyL (tyT (Row.cons tyS (Row.one tyI)))) y, .md tyI ([] : List (Str × (Int))), .no, .no, .no]) (ΓT := fun (s1 : (List (Str × (Int)))) (x2 : Int × (Str × Int)) => [.ob p (He.ga K "Table") [], .fz (tyL (tyT (Row.cons tyS (Row.one tyI)))) y, .md tyI s1, .fz tyI x2.1, .fz tyS x2.2.1, .fz tyI x2.2.2]) (fun s1 : (List (Str × (Int))) => [.ob p (He.ga K "Table") [], .fz (tyL (tyT (Row.cons tyS (Row.one tyI)))) y, .md tyI s1, .no, .no, .no]) ([] : List (Str × (Int))) PassesOwn.never rfl (xi_enumL T.l_enumerate (xe_var 1 rfl rfl (.inl rfl))) (Cv.refl _) (fun s1 => (xg_tup rfl (xgs_cons (xg_name 3 sc_Table___init__.nd rfl (.inl rfl)) (fun _ => (xgs_one (xg_tup rfl (xgs_cons (xg_name 4 sc_Table___init__.nd rfl (.inl rfl)) (fun _ => (xgs_one (xg_name 5 sc_Table___init__.nd rfl (.inl rfl))))))))))) id (fun nx3 s1 x2 => by exact (y_if1 (Γ := [.ob p (He.ga K "Table") [], .fz (tyL (tyT (Row.cons tyS (Row.one tyI)))) y, .md tyI s1, .fz tyI x2.1, .fz tyS x2.2.1, .fz tyI x2.2.2]) (xt_w (xw_orp (xt_not (xt_val (xe_call (ok_is_integer T) (hr.mono (by decide)) (xa_one (xe_var 5 rfl rfl (.inl rfl)))))) (xw_orp (xt_lt (xe_var 5 rfl rfl (.inl rfl)) xe_int) (xw_or1 (xt_inD (hu_of hr) (xe_var 4 rfl rfl (.inl rfl)) (xd_own 2 rfl rfl (.inl rfl)))) rfl) rfl)) id (by exact (y_never id)) (by exact (y_put (Γ := [.ob p (He.ga K "Table") [], .fz (tyL (tyT (Row.cons tyS (Row.one tyI)))) y, .md tyI s1, .fz tyI x2.1, .fz tyS x2.2.1, .fz tyI x2.2.2]) 2 (hu_of hr) rfl rfl (.inl rfl) (xe_var 5 rfl rfl (.inl rfl)) (xe_var 4 rfl rfl (.inl rfl)) id (fun weights_6 => (y_join (ΓJ := fun s1 : (List (Str × (Int))) => [.ob p (He.ga K "Table") [], .fz (tyL (tyT (Row.cons tyS (Row.one tyI)))) y, .md tyI s1, .no, .no, .no]) weights_6 (Wk.cv (.same (.same (.same (.no (.no (.no .nil))))))) rfl id)))))) (fun s1 => by exact (xb_cv (cv_md 2 rfl) (y_fldNew (Γ := [.ob p (He.ga K "Table") [], .fz (tyL (tyT (Row.cons tyS (Row.one tyI)))) y, .fz (tyD tyI) s1, .no, .no, .no]) 0 [] rfl rfl (.inl rfl) T.c_Table T.n_Table_weights rfl (by decide +kernel) (xe_var 2 rfl rfl (.inl rfl)) id (fun y7 => (y_fldNew (Γ := [.ob p (He.ga K "Table") [("weights", ⟨(tyD tyI), y7⟩)], .fz (tyL (tyT (Row.cons tyS (Row.one tyI)))) y, .fz (tyD tyI) s1, .no, .no, .no]) 0 ["weights"] rfl rfl (.inl rfl) T.c_Table T.n_Table_whole rfl (by decide +kernel) (xe_sumV rfl T.l_sum (xd_of (xe_var 2 rfl rfl (.inl rfl)))) id (fun y8 => (y_initEnd (Γ := [.ob p (He.ga K "Table") [("weights", ⟨(tyD tyI), y7⟩), ("whole", ⟨tyI, y8⟩)], .fz (tyL (tyT (Row.cons tyS (Row.one tyI)))) y, .fz (tyD tyI) s1, .no, .no, .no]) (y7, y8) rfl rfl (rf_cons rf_one) rfl id))))))))))
theorem ok_Table___init__ (T : Txt K mg) : CleI P w K mg base "Table" (He.ga K "Table") 2 (spI (He.ga K "Table") ns_Table (Row.one (tyL (tyT (Row.cons tyS (Row.one tyI))))) (Row.cons (tyD tyI) (Row.one tyI)) (w_Table___init__)) :=
  let ⟨_, F⟩ := T.f_Table___init__
  ⟨_, _, _, fo_Table___init__ T F, T.k_Table, T.g_Table, F.bindsN (fun _ _ _ _ _ _ us hl => match us, hl with | [_, _], _ => rfl)⟩
theorem ok_Table___init___k0_pairs (T : Txt K mg) : CleIK P w K mg base "Table" (He.ga K "Table") 2 0 ["pairs"] (spI (He.ga K "Table") ns_Table (Row.one (tyL (tyT (Row.cons tyS (Row.one tyI))))) (Row.cons (tyD tyI) (Row.one tyI)) (w_Table___init__)) :=
  let ⟨_, F⟩ := T.f_Table___init__
  ⟨_, _, _, fo_Table___init__ T F, T.k_Table, T.g_Table, kbn_of F (fun _ _ _ _ _ _ us ws h1 h2 => match us, ws, h1, h2 with | [_], [_], _, _ => rfl)⟩
theorem fo_Table___init___v1 {fd : FuncData} (T : Txt K mg) (F : FunD K "__init__" "Table.__init__" (defArgs s_Table___init__) (defBody s_Table___init__) (defScope s_Table___init__) [] [] (He.fAd K ("Table", some "__init__")) fd) : FnOk P w K mg base CX0 2 (He.fAd K ("Table", some "__init__")) fd ["self", "pairs"] (spI (He.ga K "Table") ns_Table (Row.one (tyL (tyM (Row.cons tyS (Row.one tyI))))) (Row.cons (tyD tyI) (Row.one tyI)) (w_Table___init__)) :=
  fn_I (Γ0 := fun p y => [.ob p (He.ga K "Table") [], .fz (tyL (tyM (Row.cons tyS (Row.one tyI)))) y, .no, .no, .no, .no]) F sc_Table___init__ rfl (Nat.le_of_ble_eq_true rfl) rsl_one (fun _ _ => rfl) (fun cdv A outer s H E hr p y k => (xb_newD (Γ := [.ob p (He.ga K "Table") [], .fz (tyL (tyM (Row.cons tyS (Row.one tyI)))) y, .no, .no, .no, .no]) 2 tyI sc_Table___init__.nd rfl (.inl rfl) (y_for (Γ := [.ob p (He.ga K "Table") [], .fz (tyL (tyM (Row.cons tyS (Row.one tyI)))) y, .md tyI ([] : List (Str × (Int))), .no, .no, .no]) (ΓT := fun (s1 : (List (Str × (Int)))) (x2 : Int × (Str × Int)) => [.ob p (He.ga K "Table") [], .fz (tyL (tyM (Row.cons tyS (Row.one tyI)))) y, .md tyI s1, .fz tyI x2.1, .fz tyS x2.2.1, .fz tyI x2.2.2]) (fun s1 : (List (Str × (Int))) => [.ob p (He.ga K "Table") [], .fz (tyL (tyM (Row.cons tyS (Row.one tyI)))) y, .md tyI s1, .no, .no, .no]) ([] : List (Str × (Int))) PassesOwn.never rfl (xi_enumL T.l_enumerate (xe_var 1 rfl rfl (.inl rfl))) (Cv.refl _) (fun s1 => (xg_tup rfl (xgs_cons (xg_name 3 sc_Table___init__.nd rfl (.inl rfl)) (fun _ => (xgs_one (xg_lst rfl (xgs_cons (xg_name 4 sc_Table___init__.nd rfl (.inl rfl)) (fun _ => (xgs_one (xg_name 5 sc_Table___init__.nd rfl (.inl rfl))))))))))) id (fun nx3 s1 x2 => by exact (y_if1 (Γ := [.ob p (He.ga K "Table") [], .fz (tyL (tyM (Row.cons tyS (Row.one tyI)))) y, .md tyI s1, .fz tyI x2.1, .fz tyS x2.2.1, .fz tyI x2.2.2]) (xt_w (xw_orp (xt_not (xt_val (xe_call (ok_is_integer T) (hr.mono (by decide)) (xa_one (xe_var 5 rfl rfl (.inl rfl)))))) (xw_orp (xt_lt (xe_var 5 rfl rfl (.inl rfl)) xe_int) (xw_or1 (xt_inD (hu_of hr) (xe_var 4 rfl rfl (.inl rfl)) (xd_own 2 rfl rfl (.inl rfl)))) rfl) rfl)) id (by exact (y_never id)) (by exact (y_put (Γ := [.ob p (He.ga K "Table") [], .fz (tyL (tyM (Row.cons tyS (Row.one tyI)))) y, .md tyI s1, .fz tyI x2.1, .fz tyS x2.2.1, .fz tyI x2.2.2]) 2 (hu_of hr) rfl rfl (.inl rfl) (xe_var 5 rfl rfl (.inl rfl)) (xe_var 4 rfl rfl (.inl rfl)) id (fun weights_6 => (y_join (ΓJ := fun s1 : (List (Str × (Int))) => [.ob p (He.ga K "Table") [], .fz (tyL (tyM (Row.cons tyS (Row.one tyI)))) y, .md tyI s1, .no, .no, .no]) weights_6 (Wk.cv (.same (.same (.same (.no (.no (.no .nil))))))) rfl id)))))) (fun s1 => by exact (xb_cv (cv_md 2 rfl) (y_fldNew (Γ := [.ob p (He.ga K "Table") [], .fz (tyL (tyM (Row.cons tyS (Row.one tyI)))) y, .fz (tyD tyI) s1, .no, .no, .no]) 0 [] rfl rfl (.inl rfl) T.c_Table T.n_Table_weights rfl (by decide +kernel) (xe_var 2 rfl rfl (.inl rfl)) id (fun y7 => (y_fldNew (Γ := [.ob p (He.ga K "Table") [("weights", ⟨(tyD tyI), y7⟩)], .fz (tyL (tyM (Row.cons tyS (Row.one tyI)))) y, .fz (tyD tyI) s1, .no, .no, .no]) 0 ["weights"] rfl rfl (.inl rfl) T.c_Table T.n_Table_whole rfl (by decide +kernel) (xe_sumV rfl T.l_sum (xd_of (xe_var 2 rfl rfl (.inl rfl)))) id (fun y8 => (y_initEnd (Γ := [.ob p (He.ga K "Table") [("weights", ⟨(tyD tyI), y7⟩), ("whole", ⟨tyI, y8⟩)], .fz (tyL (tyM (Row.cons tyS (Row.one tyI)))) y, .fz (tyD tyI) s1, .no, .no, .no]) (y7, y8) rfl rfl (rf_cons rf_one) rfl id))))))))))
theorem ok_Table___init___v1 (T : Txt K mg) : CleI P w K mg base "Table" (He.ga K "Table") 2 (spI (He.ga K "Table") ns_Table (Row.one (tyL (tyM (Row.cons tyS (Row.one tyI))))) (Row.cons (tyD tyI) (Row.one tyI)) (w_Table___init__)) :=
  let ⟨_, F⟩ := T.f_Table___init__
  ⟨_, _, _, fo_Table___init___v1 T F, T.k_Table, T.g_Table, F.bindsN (fun _ _ _ _ _ _ us hl => match us, hl with | [_, _], _ => rfl)⟩
theorem ok_Table___init___v1_k0_pairs (T : Txt K mg) : CleIK P w K mg base "Table" (He.ga K "Table") 2 0 ["pairs"] (spI (He.ga K "Table") ns_Table (Row.one (tyL (tyM (Row.cons tyS (Row.one tyI))))) (Row.cons (tyD tyI) (Row.one tyI)) (w_Table___init__)) :=
  let ⟨_, F⟩ := T.f_Table___init__
  ⟨_, _, _, fo_Table___init___v1 T F, T.k_Table, T.g_Table, kbn_of F (fun _ _ _ _ _ _ us ws h1 h2 => match us, ws, h1, h2 with | [_], [_], _, _ => rfl)⟩
theorem fo_Table___init___v2 {fd : FuncData} (T : Txt K mg) (F : FunD K "__init__" "Table.__init__" (defArgs s_Table___init__) (defBody s_Table___init__) (defScope s_Table___init__) [] [] (He.fAd K ("Table", some "__init__")) fd) : FnOk P w K mg base CX0 2 (He.fAd K ("Table", some "__init__")) fd ["self", "pairs"] (spI (He.ga K "Table") ns_Table (Row.one (tyP (tyT (Row.cons tyS (Row.one tyI))))) (Row.cons (tyD tyI) (Row.one tyI)) (w_Table___init__)) :=
  fn_I (Γ0 := fun p y => [.ob p (He.ga K "Table") [], .fz (tyP (tyT (Row.cons tyS (Row.one tyI)))) y, .no, .no, .no, .no]) F sc_Table___init__ rfl (Nat.le_of_ble_eq_true rfl) rsl_one (fun _ _ => rfl) (fun cdv A outer s H E hr p y k => (xb_newD (Γ := [.ob p (He.ga K "Table") [], .fz (tyP (tyT (Row.cons tyS (Row.one tyI)))) y, .no, .no, .no, .no]) 2 tyI sc_Table___init__.nd rfl (.inl rfl) (y_for (Γ := [.ob p (He.ga K "Table") [], .fz (tyP (tyT (Row.cons tyS (Row.one tyI)))) y, .md tyI ([] : List (Str × (Int))), .no, .no, .no]) (ΓT := fun (s1 : (List (Str × (Int)))) (x2 : Int × (Str × Int)) => [.ob p (He.ga K "Table") [], .fz (tyP (tyT (Row.cons tyS (Row.one tyI)))) y, .md tyI s1, .fz tyI x2.1, .fz tyS x2.2.1, .fz tyI x2.2.2]) (fun s1 : (List (Str × (Int))) => [.ob p (He.ga K "Table") [], .fz (tyP (tyT (Row.cons tyS (Row.one tyI)))) y, .md tyI s1, .no, .no, .no]) ([] : List (Str × (Int))) PassesOwn.never rfl (xi_enumP T.l_enumerate (xe_var 1 rfl rfl (.inl rfl))) (Cv.refl _) (fun s1 => (xg_tup rfl (xgs_cons (xg_name 3 sc_Table___init__.nd rfl (.inl rfl)) (fun _ => (xgs_one (xg_tup rfl (xgs_cons (xg_name 4 sc_Table___init__.nd rfl (.inl rfl)) (fun _ => (xgs_one (xg_name 5 sc_Table___init__.nd rfl (.inl rfl))))))))))) id (fun nx3 s1 x2 => by exact (y_if1 (Γ := [.ob p (He.ga K "Table") [], .fz (tyP (tyT (Row.cons tyS (Row.one tyI)))) y, .md tyI s1, .fz tyI x2.1, .fz tyS x2.2.1, .fz tyI x2.2.2]) (xt_w (xw_orp (xt_not (xt_val (xe_call (ok_is_integer T) (hr.mono (by decide)) (xa_one (xe_var 5 rfl rfl (.inl rfl)))))) (xw_orp (xt_lt (xe_var 5 rfl rfl (.inl rfl)) xe_int) (xw_or1 (xt_inD (hu_of hr) (xe_var 4 rfl rfl (.inl rfl)) (xd_own 2 rfl rfl (.inl rfl)))) rfl) rfl)) id (by exact (y_never id)) (by exact (y_put (Γ := [.ob p (He.ga K "Table") [], .fz (tyP (tyT (Row.cons tyS (Row.one tyI)))) y, .md tyI s1, .fz tyI x2.1, .fz tyS x2.2.1, .fz tyI x2.2.2]) 2 (hu_of hr) rfl rfl (.inl rfl) (xe_var 5 rfl rfl (.inl rfl)) (xe_var 4 rfl rfl (.inl rfl)) id (fun weights_6 => (y_join (ΓJ := fun s1 : (List (Str × (Int))) => [.ob p (He.ga K "Table") [], .fz (tyP (tyT (Row.cons tyS (Row.one tyI)))) y, .md tyI s1, .no, .no, .no]) weights_6 (Wk.cv (.same (.same (.same (.no (.no (.no .nil))))))) rfl id)))))) (fun s1 => by exact (xb_cv (cv_md 2 rfl) (y_fldNew (Γ := [.ob p (He.ga K "Table") [], .fz (tyP (tyT (Row.cons tyS (Row.one tyI)))) y, .fz (tyD tyI) s1, .no, .no, .no]) 0 [] rfl rfl (.inl rfl) T.c_Table T.n_Table_weights rfl (by decide +kernel) (xe_var 2 rfl rfl (.inl rfl)) id (fun y7 => (y_fldNew (Γ := [.ob p (He.ga K "Table") [("weights", ⟨(tyD tyI), y7⟩)], .fz (tyP (tyT (Row.cons tyS (Row.one tyI)))) y, .fz (tyD tyI) s1, .no, .no, .no]) 0 ["weights"] rfl rfl (.inl rfl) T.c_Table T.n_Table_whole rfl (by decide +kernel) (xe_sumV rfl T.l_sum (xd_of (xe_var 2 rfl rfl (.inl rfl)))) id (fun y8 => (y_initEnd (Γ := [.ob p (He.ga K "Table") [("weights", ⟨(tyD tyI), y7⟩), ("whole", ⟨tyI, y8⟩)], .fz (tyP (tyT (Row.cons tyS (Row.one tyI)))) y, .fz (tyD tyI) s1, .no, .no, .no]) (y7, y8) rfl rfl (rf_cons rf_one) rfl id))))))))))
theorem ok_Table___init___v2 (T : Txt K mg) : CleI P w K mg base "Table" (He.ga K "Table") 2 (spI (He.ga K "Table") ns_Table (Row.one (tyP (tyT (Row.cons tyS (Row.one tyI))))) (Row.cons (tyD tyI) (Row.one tyI)) (w_Table___init__)) :=
  let ⟨_, F⟩ := T.f_Table___init__
  ⟨_, _, _, fo_Table___init___v2 T F, T.k_Table, T.g_Table, F.bindsN (fun _ _ _ _ _ _ us hl => match us, hl with | [_, _], _ => rfl)⟩
theorem ok_Table___init___v2_k0_pairs (T : Txt K mg) : CleIK P w K mg base "Table" (He.ga K "Table") 2 0 ["pairs"] (spI (He.ga K "Table") ns_Table (Row.one (tyP (tyT (Row.cons tyS (Row.one tyI))))) (Row.cons (tyD tyI) (Row.one tyI)) (w_Table___init__)) :=
  let ⟨_, F⟩ := T.f_Table___init__
  ⟨_, _, _, fo_Table___init___v2 T F, T.k_Table, T.g_Table, kbn_of F (fun _ _ _ _ _ _ us ws h1 h2 => match us, ws, h1, h2 with | [_], [_], _, _ => rfl)⟩
/-! _law_draw -/
theorem sc_law_draw : FnScope ["state", "limit", "cell", "got"] ["state", "limit"] (defScope s_law_draw) := ⟨rfl, rfl, rfl, by decide +kernel, rfl, by decide +kernel, by decide +kernel⟩
def w_law_draw_in (y : Int) (u : tSt) (k : Int → Prop) : Prop :=
  (Jn (fun s1 : Int => (Jn (fun s2 : ((List (Int)) × Int × Int × Int × Int) => if (decide ((0 : Int) < s2.2.2.1)) = true then (0 < s1 ∧ ((Bnd (s2.2.2.1 % s1) fun got_3 => CDivW s2.2.2.1 s1 ∧ ((Bnd (s2.1, s2.2.1, (s2.2.2.1 / s1), s2.2.2.2.1, s2.2.2.2.2) fun st4 => (Bnd (st4.1, st4.2.1, st4.2.2.1, (st4.2.2.2.1 - (1 : Int)), st4.2.2.2.2) fun st5 => (Jn (fun s6 : ((List (Int)) × Int × Int × Int × Int) => (Ist s6 ∧ k got_3)) fun j7 => if ((decide (st5.2.2.1 = (0 : Int))) || (decide (st5.2.2.2.1 = (0 : Int)))) = true then (Bnd (st5.1, st5.2.1, (0 : Int), st5.2.2.2.1, st5.2.2.2.2) fun st8 => (Bnd (st8.1, st8.2.1, st8.2.2.1, (0 : Int), st8.2.2.2.2) fun st9 => j7 st9)) else (j7 st5)))))))) else (Bnd (s2.1, s2.2.1, s2.2.2.1, (max (0 : Int) (s2.2.2.2.1 - (1 : Int))), s2.2.2.2.2) fun st10 => CMulW st10.2.2.2.2 (48271 : Int) ∧ (0 < (2147483647 : Int) ∧ ((Bnd (st10.1, st10.2.1, st10.2.2.1, st10.2.2.2.1, (((st10.2.2.2.2 * (48271 : Int)) + (12345 : Int)) % (2147483647 : Int))) fun st11 => CMulW st11.2.2.2.2 (40692 : Int) ∧ (0 < (2147483399 : Int) ∧ (0 < s1 ∧ ((Ist st11 ∧ k ((((st11.2.2.2.2 * (40692 : Int)) + (3791 : Int)) % (2147483399 : Int)) % s1)))))))))) fun j12 => if ((decide (u.2.2.2.1 = (0 : Int))) && (decide (u.2.1 < ((u.1).length : Int)))) = true then (∃ y13, atI u.1 u.2.1 = some y13 ∧ ((Bnd ((y13).natAbs : Int) fun cell_14 => (Bnd (u.1, (u.2.1 + (1 : Int)), u.2.2.1, u.2.2.2.1, u.2.2.2.2) fun st15 => (Bnd (st15.1, st15.2.1, st15.2.2.1, (4 : Int), st15.2.2.2.2) fun st16 => (Jn (fun s17 : ((List (Int)) × Int × Int × Int × Int) => j12 s17) fun j18 => if (decide ((1000000000000000000 : Int) ≤ cell_14)) = true then (Bnd (st16.1, st16.2.1, cell_14, st16.2.2.2.1, st16.2.2.2.2) fun st19 => (Bnd (st19.1, st19.2.1, st19.2.2.1, (60 : Int), st19.2.2.2.2) fun st20 => j18 st20)) else (CMulW st16.2.2.2.2 (48271 : Int) ∧ (0 < (2147483647 : Int) ∧ ((Bnd (st16.1, st16.2.1, st16.2.2.1, st16.2.2.2.1, ((((st16.2.2.2.2 * (48271 : Int)) + cell_14) + st16.2.1) % (2147483647 : Int))) fun st21 => j18 st21)))))))))) else (j12 u))) fun j22 => if (decide (y < (2 : Int))) = true then (Bnd (1 : Int) fun limit_23 => j22 limit_23) else (j22 y))
theorem pure_law_draw {y : Int} {u : tSt} {k : Int → Prop} (hI : Ist u) (h : w_law_draw y k) : w_law_draw_in y u k := by
  obtain ⟨hl, hk⟩ := h
  refine Jn_by (fun s1 => 1 ≤ s1 ∧ s1.natAbs.log2 < 9000 ∧ ∀ r, 0 ≤ r → r < s1 → k r) (fun s1 ⟨h1, h2, h3⟩ => ?_) (fun j hj => ?_)
  · refine Jn_by Ist (fun s2 hs => ?_) (fun j hj => ?_)
    · obtain ⟨xs, at_, wide, left, mix⟩ := s2
      obtain ⟨i1, i2, i4, i5⟩ := hs
      simp only at i1 i2 i4 i5
      split
      · rename_i hw
        have hw : (0 : Int) < wide := of_decide_eq_true hw
        refine ⟨by omega, ?_, ?_⟩
        · exact ⟨by omega, h2⟩
        · have d0 : 0 ≤ wide / s1 := Int.ediv_nonneg i2 (by omega)
          have r0 : 0 ≤ wide % s1 := Int.emod_nonneg _ (by omega)
          have r1 : wide % s1 < s1 := Int.emod_lt_of_pos _ (by omega)
          simp only [Bnd]
          refine Jn_by Ist (fun s6 hs6 => ⟨hs6, h3 _ r0 r1⟩) (fun j hj => ?_)
          split
          · exact hj _ ⟨i1, Int.le_refl _, i4, i5⟩
          · exact hj _ ⟨i1, d0, i4, i5⟩
      · have m1 : CMulW mix 48271 := cmul_of 31 16 (by omega) (by decide) (by decide)
        refine ⟨m1, by decide, ?_⟩
        have e0 : 0 ≤ (mix * 48271 + 12345) % 2147483647 := Int.emod_nonneg _ (by decide)
        have e1 : (mix * 48271 + 12345) % 2147483647 < 2147483647 := Int.emod_lt_of_pos _ (by decide)
        refine ⟨cmul_of 31 16 (by show ((mix * 48271 + 12345) % 2147483647).natAbs < _; omega) (by decide) (by decide), by decide, by omega, ⟨i1, i2, e0, e1⟩, h3 _ (Int.emod_nonneg _ (by omega)) (Int.emod_lt_of_pos _ (by omega))⟩
    · obtain ⟨xs, at_, wide, left, mix⟩ := u
      obtain ⟨i1, i2, i4, i5⟩ := hI
      simp only at i1 i2 i4 i5
      split
      · rename_i hc
        rw [Bool.and_eq_true, decide_eq_true_eq, decide_eq_true_eq] at hc
        obtain ⟨c1, c2⟩ := hc
        have c1 : left = 0 := c1
        have c2 : at_ < (xs.length : Int) := c2
        have hat : at_.toNat < xs.length := by omega
        refine ⟨xs[at_.toNat], ?_, ?_⟩
        · have e : at_ = ((at_.toNat : Nat) : Int) := by omega
          have q : atI xs ((at_.toNat : Nat) : Int) = some xs[at_.toNat] := atI_nat (by simp [hat])
          rw [← e] at q
          exact q
        · simp only [Bnd]
          refine Jn_by Ist (fun s17 hs => hj _ hs) (fun j18 hj18 => ?_)
          have cn : (0 : Int) ≤ ((xs[at_.toNat]).natAbs : Int) := by omega
          split
          · exact hj18 _ ⟨by show 0 ≤ at_ + 1; omega, cn, i4, i5⟩
          · refine ⟨cmul_of 31 16 (by show mix.natAbs < _; omega) (by decide) (by decide), by decide, ?_⟩
            exact hj18 _ ⟨by show 0 ≤ at_ + 1; omega, i2, Int.emod_nonneg _ (by decide), Int.emod_lt_of_pos _ (by decide)⟩
      · exact hj _ ⟨i1, i2, i4, i5⟩
  · split
    · rename_i hy
      have hy : y < 2 := of_decide_eq_true hy
      exact hj 1 ⟨Int.le_refl _, by decide, fun r h0 h1 => hk r h0 (by omega)⟩
    · rename_i hy
      have hy : ¬ y < 2 := fun e => hy (decide_eq_true e)
      exact hj y ⟨by omega, hl, fun r h0 h1 => hk r h0 (by omega)⟩

theorem ok_law_draw (T : Txt K mg) : Cle P w K mg base "_law_draw" 1 (spS (zmR Rst Ist) (Row.one tyI) tyI (w_law_draw)) :=
  let ⟨_, F⟩ := T.f_law_draw
  cle_SM (Γ0 := fun st u y => [.mx st (Row.cons (tyL tyI) (Row.cons tyI (Row.cons tyI (Row.cons tyI (Row.one tyI))))) u, .fz tyI y, .no, .no]) F T.g_law_draw sc_law_draw (fun _ _ _ _ _ _ us hl => match us, hl with | [_, _], _ => rfl) rfl (Nat.le_of_ble_eq_true rfl) rsl_one (fun _ _ _ => rfl) (fun cdv A outer s H E hr st u y k hI => ⟨w_law_draw_in y u k, pure_law_draw hI, (y_if (Γ := [.mx st (Row.cons (tyL tyI) (Row.cons tyI (Row.cons tyI (Row.cons tyI (Row.one tyI))))) u, .fz tyI y, .no, .no]) (fun s1 : Int => [.mx st (Row.cons (tyL tyI) (Row.cons tyI (Row.cons tyI (Row.cons tyI (Row.one tyI))))) u, .fz tyI s1, .no, .no]) (xt_lt (xe_var 1 rfl rfl (.inl rfl)) xe_int) id (fun j22 => by exact (y_set (Γ := [.mx st (Row.cons (tyL tyI) (Row.cons tyI (Row.cons tyI (Row.cons tyI (Row.one tyI))))) u, .fz tyI y, .no, .no]) 1 sc_law_draw.nd rfl (.inl rfl) xe_int id (fun limit_23 => (y_join (ΓJ := fun s1 : Int => [.mx st (Row.cons (tyL tyI) (Row.cons tyI (Row.cons tyI (Row.cons tyI (Row.one tyI))))) u, .fz tyI s1, .no, .no]) limit_23 (Cv.refl _) rfl id)))) (fun j22 => by exact (y_join (ΓJ := fun s1 : Int => [.mx st (Row.cons (tyL tyI) (Row.cons tyI (Row.cons tyI (Row.cons tyI (Row.one tyI))))) u, .fz tyI s1, .no, .no]) y (Cv.refl _) rfl id)) (fun s1 => by exact (y_if (Γ := [.mx st (Row.cons (tyL tyI) (Row.cons tyI (Row.cons tyI (Row.cons tyI (Row.one tyI))))) u, .fz tyI s1, .no, .no]) (fun s2 : ((List (Int)) × Int × Int × Int × Int) => [.mx st (Row.cons (tyL tyI) (Row.cons tyI (Row.cons tyI (Row.cons tyI (Row.one tyI))))) s2, .fz tyI s1, .no, .no]) (xt_w (xw_andp (xt_eq (xe_itMx 0 3 rfl rfl (.inl rfl) (ra_succ (ra_succ (ra_succ ra_zero))) xe_int (fun _ _ => rfl)) xe_int) (xw_and1 (xt_lt (xe_itMx 0 1 rfl rfl (.inl rfl) (ra_succ ra_zero) xe_int (fun _ _ => rfl)) (xe_len T.l_len (xl_of (xe_itMx 0 0 rfl rfl (.inl rfl) ra_zero xe_int (fun _ _ => rfl)))))) rfl)) id (fun j12 => by exact (y_set (Γ := [.mx st (Row.cons (tyL tyI) (Row.cons tyI (Row.cons tyI (Row.cons tyI (Row.one tyI))))) u, .fz tyI s1, .no, .no]) 2 sc_law_draw.nd rfl (.inl rfl) (xe_abs T.l_abs (xe_int1 T.l_int (xe_ix (xl_of (xe_itMx 0 0 rfl rfl (.inl rfl) ra_zero xe_int (fun _ _ => rfl))) (xe_itMx 0 1 rfl rfl (.inl rfl) (ra_succ ra_zero) xe_int (fun _ _ => rfl)) (fun _ _ => rfl)))) id (fun cell_14 => (y_setMx (Γ := [.mx st (Row.cons (tyL tyI) (Row.cons tyI (Row.cons tyI (Row.cons tyI (Row.one tyI))))) u, .fz tyI s1, .fz tyI cell_14, .no]) 0 1 rfl rfl (.inl rfl) (rp_succ rp_zero) (xe_add (xe_itMx 0 1 rfl rfl (.inl rfl) (ra_succ ra_zero) xe_int (fun _ _ => rfl)) xe_int) xe_int id (fun st15 => (y_setMx (Γ := [.mx st (Row.cons (tyL tyI) (Row.cons tyI (Row.cons tyI (Row.cons tyI (Row.one tyI))))) st15, .fz tyI s1, .fz tyI cell_14, .no]) 0 3 rfl rfl (.inl rfl) (rp_succ (rp_succ (rp_succ rp_zero))) xe_int xe_int id (fun st16 => (y_if (Γ := [.mx st (Row.cons (tyL tyI) (Row.cons tyI (Row.cons tyI (Row.cons tyI (Row.one tyI))))) st16, .fz tyI s1, .fz tyI cell_14, .no]) (fun s17 : ((List (Int)) × Int × Int × Int × Int) => [.mx st (Row.cons (tyL tyI) (Row.cons tyI (Row.cons tyI (Row.cons tyI (Row.one tyI))))) s17, .fz tyI s1, .fz tyI cell_14, .no]) (xt_ge (xe_var 2 rfl rfl (.inl rfl)) (xe_powc (n := 1000000000000000000) (by decide +kernel) xe_int xe_int)) id (fun j18 => by exact (y_setMx (Γ := [.mx st (Row.cons (tyL tyI) (Row.cons tyI (Row.cons tyI (Row.cons tyI (Row.one tyI))))) st16, .fz tyI s1, .fz tyI cell_14, .no]) 0 2 rfl rfl (.inl rfl) (rp_succ (rp_succ rp_zero)) (xe_var 2 rfl rfl (.inl rfl)) xe_int id (fun st19 => (y_setMx (Γ := [.mx st (Row.cons (tyL tyI) (Row.cons tyI (Row.cons tyI (Row.cons tyI (Row.one tyI))))) st19, .fz tyI s1, .fz tyI cell_14, .no]) 0 3 rfl rfl (.inl rfl) (rp_succ (rp_succ (rp_succ rp_zero))) xe_int xe_int id (fun st20 => (y_join (ΓJ := fun s17 : ((List (Int)) × Int × Int × Int × Int) => [.mx st (Row.cons (tyL tyI) (Row.cons tyI (Row.cons tyI (Row.cons tyI (Row.one tyI))))) s17, .fz tyI s1, .fz tyI cell_14, .no]) st20 (Cv.refl _) rfl id)))))) (fun j18 => by exact (y_setMx (Γ := [.mx st (Row.cons (tyL tyI) (Row.cons tyI (Row.cons tyI (Row.cons tyI (Row.one tyI))))) st16, .fz tyI s1, .fz tyI cell_14, .no]) 0 4 rfl rfl (.inl rfl) (rp_succ (rp_succ (rp_succ (rp_succ rp_one)))) (xe_mod (xe_int1 T.l_int (xe_add (xe_add (xe_mul (xe_itMx 0 4 rfl rfl (.inl rfl) (ra_succ (ra_succ (ra_succ (ra_succ ra_one)))) xe_int (fun _ _ => rfl)) xe_int) (xe_var 2 rfl rfl (.inl rfl))) (xe_itMx 0 1 rfl rfl (.inl rfl) (ra_succ ra_zero) xe_int (fun _ _ => rfl)))) xe_int) xe_int id (fun st21 => (y_join (ΓJ := fun s17 : ((List (Int)) × Int × Int × Int × Int) => [.mx st (Row.cons (tyL tyI) (Row.cons tyI (Row.cons tyI (Row.cons tyI (Row.one tyI))))) s17, .fz tyI s1, .fz tyI cell_14, .no]) st21 (Cv.refl _) rfl id)))) (fun s17 => by exact (y_join (ΓJ := fun s2 : ((List (Int)) × Int × Int × Int × Int) => [.mx st (Row.cons (tyL tyI) (Row.cons tyI (Row.cons tyI (Row.cons tyI (Row.one tyI))))) s2, .fz tyI s1, .no, .no]) s17 (Wk.cv (.same (.same (.no (.same .nil))))) rfl id)))))))))) (fun j12 => by exact (y_join (ΓJ := fun s2 : ((List (Int)) × Int × Int × Int × Int) => [.mx st (Row.cons (tyL tyI) (Row.cons tyI (Row.cons tyI (Row.cons tyI (Row.one tyI))))) s2, .fz tyI s1, .no, .no]) u (Cv.refl _) rfl id)) (fun s2 => by exact (y_if1 (Γ := [.mx st (Row.cons (tyL tyI) (Row.cons tyI (Row.cons tyI (Row.cons tyI (Row.one tyI))))) s2, .fz tyI s1, .no, .no]) (xt_gt (xe_itMx 0 2 rfl rfl (.inl rfl) (ra_succ (ra_succ ra_zero)) xe_int (fun _ _ => rfl)) xe_int) id (by exact (y_set (Γ := [.mx st (Row.cons (tyL tyI) (Row.cons tyI (Row.cons tyI (Row.cons tyI (Row.one tyI))))) s2, .fz tyI s1, .no, .no]) 3 sc_law_draw.nd rfl (.inl rfl) (xe_mod (xe_int1 T.l_int (xe_itMx 0 2 rfl rfl (.inl rfl) (ra_succ (ra_succ ra_zero)) xe_int (fun _ _ => rfl))) (xe_var 1 rfl rfl (.inl rfl))) id (fun got_3 => (y_setMx (Γ := [.mx st (Row.cons (tyL tyI) (Row.cons tyI (Row.cons tyI (Row.cons tyI (Row.one tyI))))) s2, .fz tyI s1, .no, .fz tyI got_3]) 0 2 rfl rfl (.inl rfl) (rp_succ (rp_succ rp_zero)) (xe_fdiv (xe_itMx 0 2 rfl rfl (.inl rfl) (ra_succ (ra_succ ra_zero)) xe_int (fun _ _ => rfl)) (xe_var 1 rfl rfl (.inl rfl))) xe_int id (fun st4 => (y_setMx (Γ := [.mx st (Row.cons (tyL tyI) (Row.cons tyI (Row.cons tyI (Row.cons tyI (Row.one tyI))))) st4, .fz tyI s1, .no, .fz tyI got_3]) 0 3 rfl rfl (.inl rfl) (rp_succ (rp_succ (rp_succ rp_zero))) (xe_sub (xe_itMx 0 3 rfl rfl (.inl rfl) (ra_succ (ra_succ (ra_succ ra_zero))) xe_int (fun _ _ => rfl)) xe_int) xe_int id (fun st5 => (y_if (Γ := [.mx st (Row.cons (tyL tyI) (Row.cons tyI (Row.cons tyI (Row.cons tyI (Row.one tyI))))) st5, .fz tyI s1, .no, .fz tyI got_3]) (fun s6 : ((List (Int)) × Int × Int × Int × Int) => [.mx st (Row.cons (tyL tyI) (Row.cons tyI (Row.cons tyI (Row.cons tyI (Row.one tyI))))) s6, .fz tyI s1, .no, .fz tyI got_3]) (xt_w (xw_orp (xt_eq (xe_itMx 0 2 rfl rfl (.inl rfl) (ra_succ (ra_succ ra_zero)) xe_int (fun _ _ => rfl)) xe_int) (xw_or1 (xt_eq (xe_itMx 0 3 rfl rfl (.inl rfl) (ra_succ (ra_succ (ra_succ ra_zero))) xe_int (fun _ _ => rfl)) xe_int)) rfl)) id (fun j7 => by exact (y_setMx (Γ := [.mx st (Row.cons (tyL tyI) (Row.cons tyI (Row.cons tyI (Row.cons tyI (Row.one tyI))))) st5, .fz tyI s1, .no, .fz tyI got_3]) 0 2 rfl rfl (.inl rfl) (rp_succ (rp_succ rp_zero)) xe_int xe_int id (fun st8 => (y_setMx (Γ := [.mx st (Row.cons (tyL tyI) (Row.cons tyI (Row.cons tyI (Row.cons tyI (Row.one tyI))))) st8, .fz tyI s1, .no, .fz tyI got_3]) 0 3 rfl rfl (.inl rfl) (rp_succ (rp_succ (rp_succ rp_zero))) xe_int xe_int id (fun st9 => (y_join (ΓJ := fun s6 : ((List (Int)) × Int × Int × Int × Int) => [.mx st (Row.cons (tyL tyI) (Row.cons tyI (Row.cons tyI (Row.cons tyI (Row.one tyI))))) s6, .fz tyI s1, .no, .fz tyI got_3]) st9 (Cv.refl _) rfl id)))))) (fun j7 => by exact (y_join (ΓJ := fun s6 : ((List (Int)) × Int × Int × Int × Int) => [.mx st (Row.cons (tyL tyI) (Row.cons tyI (Row.cons tyI (Row.cons tyI (Row.one tyI))))) s6, .fz tyI s1, .no, .fz tyI got_3]) st5 (Cv.refl _) rfl id)) (fun s6 => by exact (y_retM (Γ := [.mx st (Row.cons (tyL tyI) (Row.cons tyI (Row.cons tyI (Row.cons tyI (Row.one tyI))))) s6, .fz tyI s1, .no, .fz tyI got_3]) (u' := s6) rfl rfl (xe_var 3 rfl rfl (.inl rfl)) id)))))))))) (by exact (y_setMx (Γ := [.mx st (Row.cons (tyL tyI) (Row.cons tyI (Row.cons tyI (Row.cons tyI (Row.one tyI))))) s2, .fz tyI s1, .no, .no]) 0 3 rfl rfl (.inl rfl) (rp_succ (rp_succ (rp_succ rp_zero))) (xe_max2 rfl T.l_max xe_int (xe_sub (xe_itMx 0 3 rfl rfl (.inl rfl) (ra_succ (ra_succ (ra_succ ra_zero))) xe_int (fun _ _ => rfl)) xe_int)) xe_int id (fun st10 => (y_setMx (Γ := [.mx st (Row.cons (tyL tyI) (Row.cons tyI (Row.cons tyI (Row.cons tyI (Row.one tyI))))) st10, .fz tyI s1, .no, .no]) 0 4 rfl rfl (.inl rfl) (rp_succ (rp_succ (rp_succ (rp_succ rp_one)))) (xe_mod (xe_int1 T.l_int (xe_add (xe_mul (xe_itMx 0 4 rfl rfl (.inl rfl) (ra_succ (ra_succ (ra_succ (ra_succ ra_one)))) xe_int (fun _ _ => rfl)) xe_int) xe_int)) xe_int) xe_int id (fun st11 => (y_retM (Γ := [.mx st (Row.cons (tyL tyI) (Row.cons tyI (Row.cons tyI (Row.cons tyI (Row.one tyI))))) st11, .fz tyI s1, .no, .no]) (u' := st11) rfl rfl (xe_mod (xe_int1 T.l_int (xe_mod (xe_int1 T.l_int (xe_add (xe_mul (xe_itMx 0 4 rfl rfl (.inl rfl) (ra_succ (ra_succ (ra_succ (ra_succ ra_one)))) xe_int (fun _ _ => rfl)) xe_int) xe_int)) xe_int)) (xe_var 1 rfl rfl (.inl rfl))) id)))))))))))⟩)
/-! _law_signs -/
theorem sc_law_signs : FnScope [] [] (defScope s_law_signs) := ⟨rfl, rfl, rfl, by decide +kernel, rfl, by decide +kernel, by decide +kernel⟩
def w_law_signs (y : Unit) (k : Str → Prop) : Prop :=
  k (" !\"#$&'()*+,-./0123456789:;<=>?@ABCDEFGHIJKLMNOPQRSTUVWXYZ[\\]^_`abcdefghijklmnopqrstuvwxyz{|}~" : Str)
theorem fo_law_signs {fd : FuncData} (T : Txt K mg) (F : FunD K "_law_signs" "_law_signs" (defArgs s_law_signs) (defBody s_law_signs) (defScope s_law_signs) [] [] (He.fAd K ("_law_signs", none)) fd) : FnOk P w K mg base CX0 1 (He.fAd K ("_law_signs", none)) fd [] (spP Row.nil tyS (w_law_signs)) :=
  fn_P (Γ0 := fun y => []) (kn := fun _ => False) F sc_law_signs rfl (Nat.le_of_ble_eq_true rfl) rsl_nil (fun _ => rfl) (fun _ _ h => h.elim) (fun cdv A outer s H E hr y k => (y_ret (Γ := []) xe_str id))
theorem ok_law_signs (T : Txt K mg) : Cle P w K mg base "_law_signs" 1 (spP Row.nil tyS (w_law_signs)) :=
  let ⟨_, F⟩ := T.f_law_signs
  ⟨_, _, _, fo_law_signs T F, T.g_law_signs, F.kp, F.bindsN (fun _ _ _ _ _ _ us hl => match us, hl with | [], _ => rfl)⟩
/-! _law_text -/
theorem sc_law_text : FnScope ["state", "most", "kind", "size", "signs", "text", "k"] ["state", "most"] (defScope s_law_text) := ⟨rfl, rfl, rfl, by decide +kernel, rfl, by decide +kernel, by decide +kernel⟩
def w_law_text (y : Int) (k : Str → Prop) : Prop :=
  w_law_draw (4 : Int) (fun r1 => (Bnd r1 fun kind_2 => w_law_draw (4 : Int) (fun r3 => (Bnd r3 fun size_4 => (Bnd ("ab" : Str) fun signs_5 => (Jn (fun s6 : Str => (Jn (fun s7 : Str × Int => (Bnd ("" : Str) fun text_8 => (-(2 ^ 62) ≤ (min s7.2 y) ∧ (min s7.2 y) < 2 ^ 62) ∧ (WFor (rng 0 ((min s7.2 y)).toNat) text_8 (fun (nx11 : Str → Prop) (s9 : Str) x10 => (s7.1).length ≤ sizeLine ∧ (w_law_draw ((s7.1).length : Int) (fun r13 => (s7.1).length ≤ sizeLine ∧ ∃ c14, atI (s7.1).cps.toList r13 = some c14 ∧ ((s9).length + ((⟨#[c14]⟩ : Str)).length ≤ sizeLine ∧ ((Bnd (s9 ++ (⟨#[c14]⟩ : Str)) fun text_15 => nx11 text_15)))))) (fun (s9 : Str) => k s9)))) fun j16 => if (decide (kind_2 = (3 : Int))) = true then (w_law_signs () (fun r17 => (Bnd r17 fun signs_18 => w_law_draw (y + (1 : Int)) (fun r19 => (Bnd r19 fun size_20 => j16 (signs_18, size_20)))))) else (j16 (s6, size_4)))) fun j21 => if (decide (kind_2 = (2 : Int))) = true then (Bnd ("abAB01" : Str) fun signs_22 => j21 signs_22) else (j21 signs_5)))))))
theorem fo_law_text {fd : FuncData} (T : Txt K mg) (F : FunD K "_law_text" "_law_text" (defArgs s_law_text) (defBody s_law_text) (defScope s_law_text) [] [] (He.fAd K ("_law_text", none)) fd) : FnOk P w K mg base CX0 2 (He.fAd K ("_law_text", none)) fd ["state", "most"] (spS (zmR Rst Ist) (Row.one tyI) tyS (w_law_text)) :=
  fn_S (Γ0 := fun y => [.st, .fz tyI y, .no, .no, .no, .no, .no]) (kn := fun _ => False) F sc_law_text rfl (Nat.le_of_ble_eq_true rfl) rsl_one (fun _ => rfl) (fun _ _ h => h.elim) (fun cdv A outer s H E hr st y k => (y_set (Γ := [.st, .fz tyI y, .no, .no, .no, .no, .no]) 2 sc_law_text.nd rfl (.inl rfl) (xe_callS 0 rfl rfl (.inl rfl) (ok_law_draw T) (hr.mono (by decide)) (xa_one xe_int)) id (fun kind_2 => (y_set (Γ := [.st, .fz tyI y, .fz tyI kind_2, .no, .no, .no, .no]) 3 sc_law_text.nd rfl (.inl rfl) (xe_callS 0 rfl rfl (.inl rfl) (ok_law_draw T) (hr.mono (by decide)) (xa_one xe_int)) id (fun size_4 => (y_set (Γ := [.st, .fz tyI y, .fz tyI kind_2, .fz tyI size_4, .no, .no, .no]) 4 sc_law_text.nd rfl (.inl rfl) xe_str id (fun signs_5 => (y_if (Γ := [.st, .fz tyI y, .fz tyI kind_2, .fz tyI size_4, .fz tyS signs_5, .no, .no]) (fun s6 : Str => [.st, .fz tyI y, .fz tyI kind_2, .fz tyI size_4, .fz tyS s6, .no, .no]) (xt_eq (xe_var 2 rfl rfl (.inl rfl)) xe_int) id (fun j21 => by exact (y_set (Γ := [.st, .fz tyI y, .fz tyI kind_2, .fz tyI size_4, .fz tyS signs_5, .no, .no]) 4 sc_law_text.nd rfl (.inl rfl) xe_str id (fun signs_22 => (y_join (ΓJ := fun s6 : Str => [.st, .fz tyI y, .fz tyI kind_2, .fz tyI size_4, .fz tyS s6, .no, .no]) signs_22 (Cv.refl _) rfl id)))) (fun j21 => by exact (y_join (ΓJ := fun s6 : Str => [.st, .fz tyI y, .fz tyI kind_2, .fz tyI size_4, .fz tyS s6, .no, .no]) signs_5 (Cv.refl _) rfl id)) (fun s6 => by exact (y_if (Γ := [.st, .fz tyI y, .fz tyI kind_2, .fz tyI size_4, .fz tyS s6, .no, .no]) (fun s7 : Str × Int => [.st, .fz tyI y, .fz tyI kind_2, .fz tyI s7.2, .fz tyS s7.1, .no, .no]) (xt_eq (xe_var 2 rfl rfl (.inl rfl)) xe_int) id (fun j16 => by exact (y_set (Γ := [.st, .fz tyI y, .fz tyI kind_2, .fz tyI size_4, .fz tyS s6, .no, .no]) 4 sc_law_text.nd rfl (.inl rfl) (xe_call0 (ok_law_signs T) (hr.mono (by decide))) id (fun signs_18 => (y_set (Γ := [.st, .fz tyI y, .fz tyI kind_2, .fz tyI size_4, .fz tyS signs_18, .no, .no]) 3 sc_law_text.nd rfl (.inl rfl) (xe_callS 0 rfl rfl (.inl rfl) (ok_law_draw T) (hr.mono (by decide)) (xa_one (xe_add (xe_var 1 rfl rfl (.inl rfl)) xe_int))) id (fun size_20 => (y_join (ΓJ := fun s7 : Str × Int => [.st, .fz tyI y, .fz tyI kind_2, .fz tyI s7.2, .fz tyS s7.1, .no, .no]) (signs_18, size_20) (Cv.refl _) rfl id)))))) (fun j16 => by exact (y_join (ΓJ := fun s7 : Str × Int => [.st, .fz tyI y, .fz tyI kind_2, .fz tyI s7.2, .fz tyS s7.1, .no, .no]) (s6, size_4) (Cv.refl _) rfl id)) (fun s7 => by exact (y_set (Γ := [.st, .fz tyI y, .fz tyI kind_2, .fz tyI s7.2, .fz tyS s7.1, .no, .no]) 5 sc_law_text.nd rfl (.inl rfl) xe_str id (fun text_8 => (y_for (Γ := [.st, .fz tyI y, .fz tyI kind_2, .fz tyI s7.2, .fz tyS s7.1, .fz tyS text_8, .no]) (ΓT := fun (s9 : Str) (x10 : Int) => [.st, .fz tyI y, .fz tyI kind_2, .fz tyI s7.2, .fz tyS s7.1, .fz tyS s9, .fz tyI x10]) (fun s9 : Str => [.st, .fz tyI y, .fz tyI kind_2, .fz tyI s7.2, .fz tyS s7.1, .fz tyS s9, .no]) text_8 PassesOwn.never rfl (xi_range T.l_range (xe_min2 rfl T.l_min (xe_var 3 rfl rfl (.inl rfl)) (xe_var 1 rfl rfl (.inl rfl)))) (Cv.refl _) (fun s9 => (xg_name 6 sc_law_text.nd rfl (.inl rfl))) id (fun nx11 s9 x10 => by exact (y_set (Γ := [.st, .fz tyI y, .fz tyI kind_2, .fz tyI s7.2, .fz tyS s7.1, .fz tyS s9, .fz tyI x10]) 5 sc_law_text.nd rfl (.inl rfl) (xe_addS (xe_var 5 rfl rfl (.inl rfl)) (xe_ixS (xe_var 4 rfl rfl (.inl rfl)) (xe_callS 0 rfl rfl (.inl rfl) (ok_law_draw T) (hr.mono (by decide)) (xa_one (xe_lenS T.l_len (xe_var 4 rfl rfl (.inl rfl))))) (fun _ _ => rfl))) id (fun text_15 => (y_join (ΓJ := fun s9 : Str => [.st, .fz tyI y, .fz tyI kind_2, .fz tyI s7.2, .fz tyS s7.1, .fz tyS s9, .no]) text_15 (Wk.cv (.same (.same (.same (.same (.same (.same (.no .nil)))))))) rfl id)))) (fun s9 => by exact (y_ret (Γ := [.st, .fz tyI y, .fz tyI kind_2, .fz tyI s7.2, .fz tyS s7.1, .fz tyS s9, .no]) (xe_var 5 rfl rfl (.inl rfl)) id))))))))))))))))
theorem ok_law_text (T : Txt K mg) : Cle P w K mg base "_law_text" 2 (spS (zmR Rst Ist) (Row.one tyI) tyS (w_law_text)) :=
  let ⟨_, F⟩ := T.f_law_text
  ⟨_, _, _, fo_law_text T F, T.g_law_text, F.kp, F.bindsN (fun _ _ _ _ _ _ us hl => match us, hl with | [_, _], _ => rfl)⟩
/-! _law_others -/
theorem sc_law_others : FnScope ["state", "pairs", "others", "k", "text"] ["state", "pairs"] (defScope s_law_others) := ⟨rfl, rfl, rfl, by decide +kernel, rfl, by decide +kernel, by decide +kernel⟩
def w_law_others (y : (List (Str × Int))) (k : List (Str) → Prop) : Prop :=
  (Bnd [("" : Str)] fun others_1 => (-(2 ^ 62) ≤ (3 : Int) ∧ (3 : Int) < 2 ^ 62) ∧ (WFor (rng 0 ((3 : Int)).toNat) others_1 (fun (nx4 : (List (Str)) → Prop) (s2 : (List (Str))) x3 => w_law_draw ((y).length : Int) (fun r6 => ∃ y7, atI y r6 = some y7 ∧ ((Bnd y7.1 fun text_8 => w_law_draw (10 : Int) (fun r9 => (text_8).length ≤ sizeLine ∧ ((s2).length < sizeLine ∧ ((Bnd (cutS text_8 none (some r9)) fun y10 => (text_8).length ≤ sizeLine ∧ (w_law_signs () (fun r11 => w_law_draw (94 : Int) (fun r12 => (r11).length ≤ sizeLine ∧ ∃ c13, atI (r11).cps.toList r12 = some c13 ∧ (((cutS text_8 none (some (9 : Int)))).length + ((⟨#[c13]⟩ : Str)).length ≤ sizeLine ∧ (((s2 ++ [y10])).length < sizeLine ∧ ((Bnd ((cutS text_8 none (some (9 : Int))) ++ (⟨#[c13]⟩ : Str)) fun y14 => w_law_text (10 : Int) (fun r15 => (((s2 ++ [y10]) ++ [y14])).length < sizeLine ∧ ((Bnd r15 fun y16 => nx4 (((s2 ++ [y10]) ++ [y14]) ++ [y16]))))))))))))))))))) (fun (s2 : (List (Str))) => k s2)))
theorem fo_law_others {fd : FuncData} (T : Txt K mg) (F : FunD K "_law_others" "_law_others" (defArgs s_law_others) (defBody s_law_others) (defScope s_law_others) [] [] (He.fAd K ("_law_others", none)) fd) : FnOk P w K mg base CX0 3 (He.fAd K ("_law_others", none)) fd ["state", "pairs"] (spS (zmR Rst Ist) (Row.one (tyL (tyT (Row.cons tyS (Row.one tyI))))) (tyL tyS) (w_law_others)) :=
  fn_S (Γ0 := fun y => [.st, .fz (tyL (tyT (Row.cons tyS (Row.one tyI)))) y, .no, .no, .no]) (kn := fun _ => False) F sc_law_others rfl (Nat.le_of_ble_eq_true rfl) rsl_one (fun _ => rfl) (fun _ _ h => h.elim) (fun cdv A outer s H E hr st y k => (y_setF (Γ := [.st, .fz (tyL (tyT (Row.cons tyS (Row.one tyI)))) y, .no, .no, .no]) 2 sc_law_others.nd rfl (.inl rfl) (xf_lst (A := tyS) (xa_conss xe_str (xa_nils (A := tyS)))) id (fun others_1 => (y_for (Γ := [.st, .fz (tyL (tyT (Row.cons tyS (Row.one tyI)))) y, .ml tyS others_1, .no, .no]) (ΓT := fun (s2 : (List (Str))) (x3 : Int) => [.st, .fz (tyL (tyT (Row.cons tyS (Row.one tyI)))) y, .ml tyS s2, .fz tyI x3, .no]) (fun s2 : (List (Str)) => [.st, .fz (tyL (tyT (Row.cons tyS (Row.one tyI)))) y, .ml tyS s2, .no, .no]) others_1 PassesOwn.never rfl (xi_range T.l_range xe_int) (Cv.refl _) (fun s2 => (xg_name 3 sc_law_others.nd rfl (.inl rfl))) id (fun nx4 s2 x3 => by exact (y_set (Γ := [.st, .fz (tyL (tyT (Row.cons tyS (Row.one tyI)))) y, .ml tyS s2, .fz tyI x3, .no]) 4 sc_law_others.nd rfl (.inl rfl) (xe_itT (xe_ix (xl_of (xe_var 1 rfl rfl (.inl rfl))) (xe_callS 0 rfl rfl (.inl rfl) (ok_law_draw T) (hr.mono (by decide)) (xa_one (xe_len T.l_len (xl_of (xe_var 1 rfl rfl (.inl rfl)))))) (fun _ _ => rfl)) ra_zero xe_int (fun _ _ => rfl)) id (fun text_8 => (y_app (Γ := [.st, .fz (tyL (tyT (Row.cons tyS (Row.one tyI)))) y, .ml tyS s2, .fz tyI x3, .fz tyS text_8]) 2 rfl rfl (.inl rfl) (xe_slS (xe_var 4 rfl rfl (.inl rfl)) xo_none (xo_some (xe_callS 0 rfl rfl (.inl rfl) (ok_law_draw T) (hr.mono (by decide)) (xa_one xe_int)))) id (fun y10 => (y_app (Γ := [.st, .fz (tyL (tyT (Row.cons tyS (Row.one tyI)))) y, .ml tyS (s2 ++ [y10]), .fz tyI x3, .fz tyS text_8]) 2 rfl rfl (.inl rfl) (xe_addS (xe_slS (xe_var 4 rfl rfl (.inl rfl)) xo_none (xo_some xe_int)) (xe_ixS (xe_call0 (ok_law_signs T) (hr.mono (by decide))) (xe_callS 0 rfl rfl (.inl rfl) (ok_law_draw T) (hr.mono (by decide)) (xa_one xe_int)) (fun _ _ => rfl))) id (fun y14 => (y_app (Γ := [.st, .fz (tyL (tyT (Row.cons tyS (Row.one tyI)))) y, .ml tyS ((s2 ++ [y10]) ++ [y14]), .fz tyI x3, .fz tyS text_8]) 2 rfl rfl (.inl rfl) (xe_callS 0 rfl rfl (.inl rfl) (ok_law_text T) (hr.mono (by decide)) (xa_one xe_int)) id (fun y16 => (y_join (ΓJ := fun s2 : (List (Str)) => [.st, .fz (tyL (tyT (Row.cons tyS (Row.one tyI)))) y, .ml tyS s2, .no, .no]) (((s2 ++ [y10]) ++ [y14]) ++ [y16]) (Wk.cv (.same (.same (.same (.no (.no .nil)))))) rfl id)))))))))) (fun s2 => by exact (xb_cv (cv_ml 2 rfl) (y_ret (Γ := [.st, .fz (tyL (tyT (Row.cons tyS (Row.one tyI)))) y, .fz (tyL tyS) s2, .no, .no]) (xe_var 2 rfl rfl (.inl rfl)) id)))))))
theorem ok_law_others (T : Txt K mg) : Cle P w K mg base "_law_others" 3 (spS (zmR Rst Ist) (Row.one (tyL (tyT (Row.cons tyS (Row.one tyI))))) (tyL tyS) (w_law_others)) :=
  let ⟨_, F⟩ := T.f_law_others
  ⟨_, _, _, fo_law_others T F, T.g_law_others, F.kp, F.bindsN (fun _ _ _ _ _ _ us hl => match us, hl with | [_, _], _ => rfl)⟩
/-! _law_texts -/
theorem sc_law_texts : FnScope ["state", "many", "most", "one_place", "base", "place", "found", "k", "text"] ["state", "many", "most"] (defScope s_law_texts) := ⟨rfl, rfl, rfl, by decide +kernel, rfl, by decide +kernel, by decide +kernel⟩
def w_law_texts (y : Int × Int) (k : List (Str) → Prop) : Prop :=
  w_law_draw (3 : Int) (fun r1 => (Bnd (decide (r1 = (0 : Int))) fun one_place_2 => w_law_text (y.2 - (1 : Int)) (fun r3 => (Bnd r3 fun base_4 => (base_4).length ≤ sizeLine ∧ (w_law_draw (((base_4).length : Int) + (1 : Int)) (fun r5 => (Bnd r5 fun place_6 => (Bnd ([] : List (Str)) fun found_7 => (-(2 ^ 62) ≤ y.1 ∧ y.1 < 2 ^ 62) ∧ (WFor (rng 0 (y.1).toNat) found_7 (fun (nx10 : (List (Str)) → Prop) (s8 : (List (Str))) x9 => (Jn (fun s12 : Str => (Jn (fun s13 : (List (Str)) => nx10 s13) fun j14 => if (!decide (s12 ∈ s8)) = true then ((s8).length < sizeLine ∧ ((Bnd s12 fun y15 => j14 (s8 ++ [y15])))) else (j14 s8))) fun j16 => if one_place_2 = true then ((base_4).length ≤ sizeLine ∧ (w_law_signs () (fun r17 => w_law_draw (94 : Int) (fun r18 => (r17).length ≤ sizeLine ∧ ∃ c19, atI (r17).cps.toList r18 = some c19 ∧ (((cutS base_4 none (some place_6))).length + ((⟨#[c19]⟩ : Str)).length ≤ sizeLine ∧ ((base_4).length ≤ sizeLine ∧ ((((cutS base_4 none (some place_6)) ++ (⟨#[c19]⟩ : Str))).length + ((cutS base_4 (some (place_6 + (1 : Int))) none)).length ≤ sizeLine ∧ ((Bnd (((cutS base_4 none (some place_6)) ++ (⟨#[c19]⟩ : Str)) ++ (cutS base_4 (some (place_6 + (1 : Int))) none)) fun text_20 => j16 text_20))))))))) else (w_law_text y.2 (fun r21 => (Bnd r21 fun text_22 => j16 text_22))))) (fun (s8 : (List (Str))) => k s8))))))))))
theorem fo_law_texts {fd : FuncData} (T : Txt K mg) (F : FunD K "_law_texts" "_law_texts" (defArgs s_law_texts) (defBody s_law_texts) (defScope s_law_texts) [] [] (He.fAd K ("_law_texts", none)) fd) : FnOk P w K mg base CX0 3 (He.fAd K ("_law_texts", none)) fd ["state", "many", "most"] (spS (zmR Rst Ist) (Row.cons tyI (Row.one tyI)) (tyL tyS) (w_law_texts)) :=
  fn_S (Γ0 := fun y => [.st, .fz tyI y.1, .fz tyI y.2, .no, .no, .no, .no, .no, .no]) (kn := fun _ => False) F sc_law_texts rfl (Nat.le_of_ble_eq_true rfl) (rsl_cons rsl_one) (fun _ => rfl) (fun _ _ h => h.elim) (fun cdv A outer s H E hr st y k => (y_set (Γ := [.st, .fz tyI y.1, .fz tyI y.2, .no, .no, .no, .no, .no, .no]) 3 sc_law_texts.nd rfl (.inl rfl) (xe_eq (xe_callS 0 rfl rfl (.inl rfl) (ok_law_draw T) (hr.mono (by decide)) (xa_one xe_int)) xe_int) id (fun one_place_2 => (y_set (Γ := [.st, .fz tyI y.1, .fz tyI y.2, .fz tyB one_place_2, .no, .no, .no, .no, .no]) 4 sc_law_texts.nd rfl (.inl rfl) (xe_callS 0 rfl rfl (.inl rfl) (ok_law_text T) (hr.mono (by decide)) (xa_one (xe_sub (xe_var 2 rfl rfl (.inl rfl)) xe_int))) id (fun base_4 => (y_set (Γ := [.st, .fz tyI y.1, .fz tyI y.2, .fz tyB one_place_2, .fz tyS base_4, .no, .no, .no, .no]) 5 sc_law_texts.nd rfl (.inl rfl) (xe_callS 0 rfl rfl (.inl rfl) (ok_law_draw T) (hr.mono (by decide)) (xa_one (xe_add (xe_lenS T.l_len (xe_var 4 rfl rfl (.inl rfl))) xe_int))) id (fun place_6 => (y_setF (Γ := [.st, .fz tyI y.1, .fz tyI y.2, .fz tyB one_place_2, .fz tyS base_4, .fz tyI place_6, .no, .no, .no]) 6 sc_law_texts.nd rfl (.inl rfl) (xf_nil (A := tyS)) id (fun found_7 => (y_for (Γ := [.st, .fz tyI y.1, .fz tyI y.2, .fz tyB one_place_2, .fz tyS base_4, .fz tyI place_6, .ml tyS found_7, .no, .no]) (ΓT := fun (s8 : (List (Str))) (x9 : Int) => [.st, .fz tyI y.1, .fz tyI y.2, .fz tyB one_place_2, .fz tyS base_4, .fz tyI place_6, .ml tyS s8, .fz tyI x9, .no]) (fun s8 : (List (Str)) => [.st, .fz tyI y.1, .fz tyI y.2, .fz tyB one_place_2, .fz tyS base_4, .fz tyI place_6, .ml tyS s8, .no, .no]) found_7 PassesOwn.never rfl (xi_range T.l_range (xe_var 1 rfl rfl (.inl rfl))) (Cv.refl _) (fun s8 => (xg_name 7 sc_law_texts.nd rfl (.inl rfl))) id (fun nx10 s8 x9 => by exact (y_if (Γ := [.st, .fz tyI y.1, .fz tyI y.2, .fz tyB one_place_2, .fz tyS base_4, .fz tyI place_6, .ml tyS s8, .fz tyI x9, .no]) (fun s12 : Str => [.st, .fz tyI y.1, .fz tyI y.2, .fz tyB one_place_2, .fz tyS base_4, .fz tyI place_6, .ml tyS s8, .fz tyI x9, .fz tyS s12]) (xt_val (xe_var 3 rfl rfl (.inl rfl))) id (fun j16 => by exact (y_set (Γ := [.st, .fz tyI y.1, .fz tyI y.2, .fz tyB one_place_2, .fz tyS base_4, .fz tyI place_6, .ml tyS s8, .fz tyI x9, .no]) 8 sc_law_texts.nd rfl (.inl rfl) (xe_addS (xe_addS (xe_slS (xe_var 4 rfl rfl (.inl rfl)) xo_none (xo_some (xe_var 5 rfl rfl (.inl rfl)))) (xe_ixS (xe_call0 (ok_law_signs T) (hr.mono (by decide))) (xe_callS 0 rfl rfl (.inl rfl) (ok_law_draw T) (hr.mono (by decide)) (xa_one xe_int)) (fun _ _ => rfl))) (xe_slS (xe_var 4 rfl rfl (.inl rfl)) (xo_some (xe_add (xe_var 5 rfl rfl (.inl rfl)) xe_int)) xo_none)) id (fun text_20 => (y_join (ΓJ := fun s12 : Str => [.st, .fz tyI y.1, .fz tyI y.2, .fz tyB one_place_2, .fz tyS base_4, .fz tyI place_6, .ml tyS s8, .fz tyI x9, .fz tyS s12]) text_20 (Cv.refl _) rfl id)))) (fun j16 => by exact (y_set (Γ := [.st, .fz tyI y.1, .fz tyI y.2, .fz tyB one_place_2, .fz tyS base_4, .fz tyI place_6, .ml tyS s8, .fz tyI x9, .no]) 8 sc_law_texts.nd rfl (.inl rfl) (xe_callS 0 rfl rfl (.inl rfl) (ok_law_text T) (hr.mono (by decide)) (xa_one (xe_var 2 rfl rfl (.inl rfl)))) id (fun text_22 => (y_join (ΓJ := fun s12 : Str => [.st, .fz tyI y.1, .fz tyI y.2, .fz tyB one_place_2, .fz tyS base_4, .fz tyI place_6, .ml tyS s8, .fz tyI x9, .fz tyS s12]) text_22 (Cv.refl _) rfl id)))) (fun s12 => by exact (y_if (Γ := [.st, .fz tyI y.1, .fz tyI y.2, .fz tyB one_place_2, .fz tyS base_4, .fz tyI place_6, .ml tyS s8, .fz tyI x9, .fz tyS s12]) (fun s13 : (List (Str)) => [.st, .fz tyI y.1, .fz tyI y.2, .fz tyB one_place_2, .fz tyS base_4, .fz tyI place_6, .ml tyS s13, .fz tyI x9, .fz tyS s12]) (xt_notIn (xe_var 8 rfl rfl (.inl rfl)) (xl_own 6 rfl rfl (.inl rfl))) id (fun j14 => by exact (y_app (Γ := [.st, .fz tyI y.1, .fz tyI y.2, .fz tyB one_place_2, .fz tyS base_4, .fz tyI place_6, .ml tyS s8, .fz tyI x9, .fz tyS s12]) 6 rfl rfl (.inl rfl) (xe_var 8 rfl rfl (.inl rfl)) id (fun y15 => (y_join (ΓJ := fun s13 : (List (Str)) => [.st, .fz tyI y.1, .fz tyI y.2, .fz tyB one_place_2, .fz tyS base_4, .fz tyI place_6, .ml tyS s13, .fz tyI x9, .fz tyS s12]) (s8 ++ [y15]) (Cv.refl _) rfl id)))) (fun j14 => by exact (y_join (ΓJ := fun s13 : (List (Str)) => [.st, .fz tyI y.1, .fz tyI y.2, .fz tyB one_place_2, .fz tyS base_4, .fz tyI place_6, .ml tyS s13, .fz tyI x9, .fz tyS s12]) s8 (Cv.refl _) rfl id)) (fun s13 => by exact (y_join (ΓJ := fun s8 : (List (Str)) => [.st, .fz tyI y.1, .fz tyI y.2, .fz tyB one_place_2, .fz tyS base_4, .fz tyI place_6, .ml tyS s8, .no, .no]) s13 (Wk.cv (.same (.same (.same (.same (.same (.same (.same (.no (.no .nil)))))))))) rfl id)))))) (fun s8 => by exact (xb_cv (cv_ml 6 rfl) (y_ret (Γ := [.st, .fz tyI y.1, .fz tyI y.2, .fz tyB one_place_2, .fz tyS base_4, .fz tyI place_6, .fz (tyL tyS) s8, .no, .no]) (xe_var 6 rfl rfl (.inl rfl)) id)))))))))))))
theorem ok_law_texts (T : Txt K mg) : Cle P w K mg base "_law_texts" 3 (spS (zmR Rst Ist) (Row.cons tyI (Row.one tyI)) (tyL tyS) (w_law_texts)) :=
  let ⟨_, F⟩ := T.f_law_texts
  ⟨_, _, _, fo_law_texts T F, T.g_law_texts, F.kp, F.bindsN (fun _ _ _ _ _ _ us hl => match us, hl with | [_, _, _], _ => rfl)⟩
/-! _law_wide -/
theorem sc_law_wide : FnScope ["state", "number", "k", "limit"] ["state"] (defScope s_law_wide) := ⟨rfl, rfl, rfl, by decide +kernel, rfl, by decide +kernel, by decide +kernel⟩
def w_law_wide (y : Unit) (k : Int → Prop) : Prop :=
  (Bnd (0 : Int) fun number_1 => (-(2 ^ 62) ≤ (5 : Int) ∧ (5 : Int) < 2 ^ 62) ∧ (WFor (rng 0 ((5 : Int)).toNat) number_1 (fun (nx4 : Int → Prop) (s2 : Int) x3 => CMulW s2 (1000000000 : Int) ∧ (w_law_draw (1000000000 : Int) (fun r6 => (Bnd ((s2 * (1000000000 : Int)) + r6) fun number_7 => nx4 number_7)))) (fun (s2 : Int) => (Bnd (1 : Int) fun limit_8 => w_law_draw (41 : Int) (fun r9 => (-(2 ^ 62) ≤ r9 ∧ r9 < 2 ^ 62) ∧ (WFor (rng 0 (r9).toNat) limit_8 (fun (nx12 : Int → Prop) (s10 : Int) x11 => CMulW s10 (10 : Int) ∧ ((Bnd (s10 * (10 : Int)) fun limit_14 => nx12 limit_14))) (fun (s10 : Int) => 0 < s10 ∧ (k (s2 % s10)))))))))
theorem fo_law_wide {fd : FuncData} (T : Txt K mg) (F : FunD K "_law_wide" "_law_wide" (defArgs s_law_wide) (defBody s_law_wide) (defScope s_law_wide) [] [] (He.fAd K ("_law_wide", none)) fd) : FnOk P w K mg base CX0 2 (He.fAd K ("_law_wide", none)) fd ["state"] (spS (zmR Rst Ist) Row.nil tyI (w_law_wide)) :=
  fn_S (Γ0 := fun y => [.st, .no, .no, .no]) (kn := fun _ => False) F sc_law_wide rfl (Nat.le_of_ble_eq_true rfl) rsl_nil (fun _ => rfl) (fun _ _ h => h.elim) (fun cdv A outer s H E hr st y k => (y_set (Γ := [.st, .no, .no, .no]) 1 sc_law_wide.nd rfl (.inl rfl) xe_int id (fun number_1 => (y_for (Γ := [.st, .fz tyI number_1, .no, .no]) (ΓT := fun (s2 : Int) (x3 : Int) => [.st, .fz tyI s2, .fz tyI x3, .no]) (fun s2 : Int => [.st, .fz tyI s2, .no, .no]) number_1 PassesOwn.never rfl (xi_range T.l_range xe_int) (Cv.refl _) (fun s2 => (xg_name 2 sc_law_wide.nd rfl (.inl rfl))) id (fun nx4 s2 x3 => by exact (y_set (Γ := [.st, .fz tyI s2, .fz tyI x3, .no]) 1 sc_law_wide.nd rfl (.inl rfl) (xe_add (xe_mul (xe_var 1 rfl rfl (.inl rfl)) (xe_powc (n := 1000000000) (by decide +kernel) xe_int xe_int)) (xe_callS 0 rfl rfl (.inl rfl) (ok_law_draw T) (hr.mono (by decide)) (xa_one (xe_powc (n := 1000000000) (by decide +kernel) xe_int xe_int)))) id (fun number_7 => (y_join (ΓJ := fun s2 : Int => [.st, .fz tyI s2, .no, .no]) number_7 (Wk.cv (.same (.same (.no (.same .nil))))) rfl id)))) (fun s2 => by exact (y_set (Γ := [.st, .fz tyI s2, .no, .no]) 3 sc_law_wide.nd rfl (.inl rfl) xe_int id (fun limit_8 => (y_for (Γ := [.st, .fz tyI s2, .no, .fz tyI limit_8]) (ΓT := fun (s10 : Int) (x11 : Int) => [.st, .fz tyI s2, .fz tyI x11, .fz tyI s10]) (fun s10 : Int => [.st, .fz tyI s2, .no, .fz tyI s10]) limit_8 PassesOwn.never rfl (xi_range T.l_range (xe_callS 0 rfl rfl (.inl rfl) (ok_law_draw T) (hr.mono (by decide)) (xa_one xe_int))) (Cv.refl _) (fun s10 => (xg_name 2 sc_law_wide.nd rfl (.inl rfl))) id (fun nx12 s10 x11 => by exact (y_set (Γ := [.st, .fz tyI s2, .fz tyI x11, .fz tyI s10]) 3 sc_law_wide.nd rfl (.inl rfl) (xe_mul (xe_var 3 rfl rfl (.inl rfl)) xe_int) id (fun limit_14 => (y_join (ΓJ := fun s10 : Int => [.st, .fz tyI s2, .no, .fz tyI s10]) limit_14 (Wk.cv (.same (.same (.no (.same .nil))))) rfl id)))) (fun s10 => by exact (y_ret (Γ := [.st, .fz tyI s2, .no, .fz tyI s10]) (xe_mod (xe_int1 T.l_int (xe_var 1 rfl rfl (.inl rfl))) (xe_var 3 rfl rfl (.inl rfl))) id))))))))))
theorem ok_law_wide (T : Txt K mg) : Cle P w K mg base "_law_wide" 2 (spS (zmR Rst Ist) Row.nil tyI (w_law_wide)) :=
  let ⟨_, F⟩ := T.f_law_wide
  ⟨_, _, _, fo_law_wide T F, T.g_law_wide, F.kp, F.bindsN (fun _ _ _ _ _ _ us hl => match us, hl with | [_], _ => rfl)⟩
/-! _law_weight -/
theorem sc_law_weight : FnScope ["state", "kind"] ["state", "kind"] (defScope s_law_weight) := ⟨rfl, rfl, rfl, by decide +kernel, rfl, by decide +kernel, by decide +kernel⟩
def w_law_weight (y : Int) (k : Int → Prop) : Prop :=
  if (decide (y < (4 : Int))) = true then (w_law_draw (4 : Int) (fun r1 => k ((1 : Int) + r1))) else (if (decide (y < (6 : Int))) = true then (w_law_draw (20 : Int) (fun r2 => k ((1 : Int) + r2))) else (if (decide (y = (6 : Int))) = true then (w_law_draw (6 : Int) (fun r3 => CMulW (6 : Int) r3 ∧ (k ((6 : Int) + ((6 : Int) * r3))))) else (w_law_wide () (fun r4 => k (max (1 : Int) r4)))))
theorem fo_law_weight {fd : FuncData} (T : Txt K mg) (F : FunD K "_law_weight" "_law_weight" (defArgs s_law_weight) (defBody s_law_weight) (defScope s_law_weight) [] [] (He.fAd K ("_law_weight", none)) fd) : FnOk P w K mg base CX0 3 (He.fAd K ("_law_weight", none)) fd ["state", "kind"] (spS (zmR Rst Ist) (Row.one tyI) tyI (w_law_weight)) :=
  fn_S (Γ0 := fun y => [.st, .fz tyI y]) (kn := fun _ => False) F sc_law_weight rfl (Nat.le_of_ble_eq_true rfl) rsl_one (fun _ => rfl) (fun _ _ h => h.elim) (fun cdv A outer s H E hr st y k => (y_if1 (Γ := [.st, .fz tyI y]) (xt_lt (xe_var 1 rfl rfl (.inl rfl)) xe_int) id (by exact (y_ret (Γ := [.st, .fz tyI y]) (xe_add xe_int (xe_callS 0 rfl rfl (.inl rfl) (ok_law_draw T) (hr.mono (by decide)) (xa_one xe_int))) id)) (by exact (y_if1 (Γ := [.st, .fz tyI y]) (xt_lt (xe_var 1 rfl rfl (.inl rfl)) xe_int) id (by exact (y_ret (Γ := [.st, .fz tyI y]) (xe_add xe_int (xe_callS 0 rfl rfl (.inl rfl) (ok_law_draw T) (hr.mono (by decide)) (xa_one xe_int))) id)) (by exact (y_if1 (Γ := [.st, .fz tyI y]) (xt_eq (xe_var 1 rfl rfl (.inl rfl)) xe_int) id (by exact (y_ret (Γ := [.st, .fz tyI y]) (xe_add xe_int (xe_mul xe_int (xe_callS 0 rfl rfl (.inl rfl) (ok_law_draw T) (hr.mono (by decide)) (xa_one xe_int)))) id)) (by exact (y_ret (Γ := [.st, .fz tyI y]) (xe_max2 rfl T.l_max xe_int (xe_callS 0 rfl rfl (.inl rfl) (ok_law_wide T) (hr.mono (by decide)) xa_nil)) id))))))))
theorem ok_law_weight (T : Txt K mg) : Cle P w K mg base "_law_weight" 3 (spS (zmR Rst Ist) (Row.one tyI) tyI (w_law_weight)) :=
  let ⟨_, F⟩ := T.f_law_weight
  ⟨_, _, _, fo_law_weight T F, T.g_law_weight, F.kp, F.bindsN (fun _ _ _ _ _ _ us hl => match us, hl with | [_, _], _ => rfl)⟩
/-! _law_pairs -/
theorem sc_law_pairs : FnScope ["state", "most", "many", "kind", "text"] ["state", "most"] (defScope s_law_pairs) := ⟨rfl, rfl, rfl, by decide +kernel, rfl, by decide +kernel, by decide +kernel⟩
def w_law_pairs (y : Int) (k : List (Str × Int) → Prop) : Prop :=
  w_law_draw (min (4 : Int) (y - (1 : Int))) (fun r1 => (Bnd ((2 : Int) + r1) fun many_2 => (Jn (fun s4 : Int => w_law_draw (8 : Int) (fun r5 => (Bnd r5 fun kind_6 => w_law_texts (s4, (10 : Int)) (fun r7 => WLc r7 (fun x8 kk10 => kk10 true) (fun x8 kk11 => w_law_weight kind_6 (fun r9 => kk11 (x8, r9))) (fun r12 => k r12))))) fun j13 => w_law_draw (6 : Int) (fun r3 => if (decide (r3 = (0 : Int))) = true then (w_law_draw y (fun r14 => (Bnd ((1 : Int) + r14) fun many_15 => j13 many_15))) else (j13 many_2)))))
theorem fo_law_pairs {fd : FuncData} (T : Txt K mg) (F : FunD K "_law_pairs" "_law_pairs" (defArgs s_law_pairs) (defBody s_law_pairs) (defScope s_law_pairs) [] [] (He.fAd K ("_law_pairs", none)) fd) : FnOk P w K mg base CX0 4 (He.fAd K ("_law_pairs", none)) fd ["state", "most"] (spS (zmR Rst Ist) (Row.one tyI) (tyL (tyT (Row.cons tyS (Row.one tyI)))) (w_law_pairs)) :=
  fn_S (Γ0 := fun y => [.st, .fz tyI y, .no, .no, .no]) (kn := fun _ => False) F sc_law_pairs rfl (Nat.le_of_ble_eq_true rfl) rsl_one (fun _ => rfl) (fun _ _ h => h.elim) (fun cdv A outer s H E hr st y k => (y_set (Γ := [.st, .fz tyI y, .no, .no, .no]) 2 sc_law_pairs.nd rfl (.inl rfl) (xe_add xe_int (xe_callS 0 rfl rfl (.inr (.inl rfl)) (ok_law_draw T) (hr.mono (by decide)) (xa_one (xe_min2 rfl T.l_min xe_int (xe_sub (xe_var 1 rfl rfl (.inl rfl)) xe_int))))) id (fun many_2 => (y_if (Γ := [.st, .fz tyI y, .fz tyI many_2, .no, .no]) (fun s4 : Int => [.st, .fz tyI y, .fz tyI s4, .no, .no]) (xt_eq (xe_callS 0 rfl rfl (.inr (.inl rfl)) (ok_law_draw T) (hr.mono (by decide)) (xa_one xe_int)) xe_int) id (fun j13 => by exact (y_set (Γ := [.st, .fz tyI y, .fz tyI many_2, .no, .no]) 2 sc_law_pairs.nd rfl (.inl rfl) (xe_add xe_int (xe_callS 0 rfl rfl (.inr (.inl rfl)) (ok_law_draw T) (hr.mono (by decide)) (xa_one (xe_var 1 rfl rfl (.inl rfl))))) id (fun many_15 => (y_join (ΓJ := fun s4 : Int => [.st, .fz tyI y, .fz tyI s4, .no, .no]) many_15 (Cv.refl _) rfl id)))) (fun j13 => by exact (y_join (ΓJ := fun s4 : Int => [.st, .fz tyI y, .fz tyI s4, .no, .no]) many_2 (Cv.refl _) rfl id)) (fun s4 => by exact (y_set (Γ := [.st, .fz tyI y, .fz tyI s4, .no, .no]) 3 sc_law_pairs.nd rfl (.inr rfl) (xe_callS 0 rfl rfl (.inr (.inl rfl)) (ok_law_draw T) (hr.mono (by decide)) (xa_one xe_int)) id (fun kind_6 => (y_ret (Γ := [.st, .fz tyI y, .fz tyI s4, .fz tyI kind_6, .no]) (xe_f (xf_c (xc_lc (B := (tyT (Row.cons tyS (Row.one tyI)))) (ΓT := fun (x8 : Str) => [.st, .fz tyI y, .fz tyI s4, .fz tyI kind_6, .fz tyS x8]) [("text", 4)] rfl sc_law_pairs.nd (xi_list (xe_callS 0 rfl rfl (.inr (.inl rfl)) (ok_law_texts T) (hr.mono (by decide)) (xa_cons (xe_var 2 rfl rfl (.inl rfl)) (xa_one xe_int)))) (by show blkC ["state", "most", "many", "kind", "text"] (defScope s_law_pairs) _ [("text", 4)] = true; decide +kernel) (fun _ _ _ _ _ => (xg_name 4 sc_law_pairs.nd rfl (.inl rfl))) (by decide) (fun _ _ _ _ _ x8 => xts_nil) (fun _ _ _ _ _ x8 => (xe_tup (xa_cons (xe_var 4 rfl rfl (.inl rfl)) (xa_one (xe_callS 0 rfl rfl (.inr (.inl rfl)) (ok_law_weight T) (hr.mono (by decide)) (xa_one (xe_var 3 rfl rfl (.inr (.inl rfl)))))))))))) id))))))))
theorem ok_law_pairs (T : Txt K mg) : Cle P w K mg base "_law_pairs" 4 (spS (zmR Rst Ist) (Row.one tyI) (tyL (tyT (Row.cons tyS (Row.one tyI)))) (w_law_pairs)) :=
  let ⟨_, F⟩ := T.f_law_pairs
  ⟨_, _, _, fo_law_pairs T F, T.g_law_pairs, F.kp, F.bindsN (fun _ _ _ _ _ _ us hl => match us, hl with | [_, _], _ => rfl)⟩
/-! _law_start -/
theorem sc_law_start : FnScope ["script"] ["script"] (defScope s_law_start) := ⟨rfl, rfl, rfl, by decide +kernel, rfl, by decide +kernel, by decide +kernel⟩
def w_law_start (y : (List Int)) (k : (List (Int)) × Int × Int × Int × Int → Prop) : Prop :=
  k (y, (0 : Int), (0 : Int), (0 : Int), (7 : Int))
theorem ok_law_start (T : Txt K mg) : Cle P w K mg base "_law_start" 1 (spN (Row.one (tyZ K)) (Row.cons (tyL tyI) (Row.cons tyI (Row.cons tyI (Row.cons tyI (Row.one tyI))))) (w_law_start)) :=
  let ⟨_, F⟩ := T.f_law_start
  cle_N (Γ0 := fun y => [.fz (tyZ K) y]) F T.g_law_start sc_law_start (fun _ _ _ _ _ _ us hl => match us, hl with | [_], _ => rfl) rfl (Nat.le_of_ble_eq_true rfl) rsl_one (fun _ => rfl) (fun cdv A outer s H E hr y k => (xn_mix (xa_cons (xe_f (xf_listZ T.l_list (xe_var 0 rfl rfl (.inl rfl)))) (xa_cons xe_int (xa_cons xe_int (xa_cons xe_int (xa_one xe_int)))))))
/-! greatest_divisor -/
theorem sc_greatest_divisor : FnScope ["a", "b"] ["a", "b"] (defScope s_greatest_divisor) := ⟨rfl, rfl, rfl, by decide +kernel, rfl, by decide +kernel, by decide +kernel⟩
def w_greatest_divisor (y : Int × Int) (k : Int → Prop) : Prop :=
  (Jn (fun s1 : Int × Int => k s1.1) fun bk3 => WWhile (y.1, y.2) (fun (s1 : Int × Int) kk4 => kk4 (decide ((0 : Int) < s1.2))) (fun (nx2 : (Int × Int) → Prop) (s1 : Int × Int) => 0 < s1.2 ∧ ((Bnd s1.2 fun a_5 => (Bnd (s1.1 % s1.2) fun b_6 => nx2 (a_5, b_6))))) bk3)
theorem fo_greatest_divisor {fd : FuncData} (T : Txt K mg) (F : FunD K "greatest_divisor" "greatest_divisor" (defArgs s_greatest_divisor) (defBody s_greatest_divisor) (defScope s_greatest_divisor) [] [] (He.fAd K ("greatest_divisor", none)) fd) : FnOk P w K mg base CX0 1 (He.fAd K ("greatest_divisor", none)) fd ["a", "b"] (spP (Row.cons tyI (Row.one tyI)) tyI (w_greatest_divisor)) :=
  fn_P (Γ0 := fun y => [.fz tyI y.1, .fz tyI y.2]) (kn := fun _ => False) F sc_greatest_divisor rfl (Nat.le_of_ble_eq_true rfl) (rsl_cons rsl_one) (fun _ => rfl) (fun _ _ h => h.elim) (fun cdv A outer s H E hr y k => (y_while (Γ := [.fz tyI y.1, .fz tyI y.2]) (fun s1 : Int × Int => [.fz tyI s1.1, .fz tyI s1.2]) (y.1, y.2) PassesOwn.never (Cv.refl _) (fun s1 => (xt_gt (xe_var 1 rfl rfl (.inl rfl)) xe_int)) id (fun bk3 nx2 s1 => by exact (y_par (Γ := [.fz tyI s1.1, .fz tyI s1.2]) 0 1 sc_greatest_divisor.nd rfl rfl (by decide) rfl rfl rfl (xe_var 1 rfl rfl (.inl rfl)) (xe_mod (xe_var 0 rfl rfl (.inl rfl)) (xe_var 1 rfl rfl (.inl rfl))) rfl id (fun a_5 b_6 => (y_join (ΓJ := fun s1 : Int × Int => [.fz tyI s1.1, .fz tyI s1.2]) (a_5, b_6) (Cv.refl _) rfl id)))) (fun s1 => by exact (y_ret (Γ := [.fz tyI s1.1, .fz tyI s1.2]) (xe_var 0 rfl rfl (.inl rfl)) id))))
theorem ok_greatest_divisor (T : Txt K mg) : Cle P w K mg base "greatest_divisor" 1 (spP (Row.cons tyI (Row.one tyI)) tyI (w_greatest_divisor)) :=
  let ⟨_, F⟩ := T.f_greatest_divisor
  ⟨_, _, _, fo_greatest_divisor T F, T.g_greatest_divisor, F.kp, F.bindsN (fun _ _ _ _ _ _ us hl => match us, hl with | [_, _], _ => rfl)⟩
/-! Share.__init__ -/
theorem sc_Share___init__ : FnScope ["self", "over", "under", "divisor"] ["self", "over", "under"] (defScope s_Share___init__) := ⟨rfl, rfl, rfl, by decide +kernel, rfl, by decide +kernel, by decide +kernel⟩
def w_Share___init__ (y : Int × Int) (k : (Int × Int) → Prop) : Prop :=
  if (decide (y.2 = (0 : Int))) = true then (False) else (w_greatest_divisor (((y.1).natAbs : Int), ((y.2).natAbs : Int)) (fun r1 => (Bnd r1 fun divisor_2 => (Jn (fun s3 : Int => CDivW y.1 s3 ∧ ((Bnd (y.1 / s3) fun y4 => CDivW y.2 s3 ∧ ((Bnd (y.2 / s3) fun y5 => k (y4, y5)))))) fun j6 => if (decide (y.2 < (0 : Int))) = true then (Bnd (-divisor_2) fun divisor_7 => j6 divisor_7) else (j6 divisor_2)))))
theorem fo_Share___init__ {fd : FuncData} (T : Txt K mg) (F : FunD K "__init__" "Share.__init__" (defArgs s_Share___init__) (defBody s_Share___init__) (defScope s_Share___init__) [] [] (He.fAd K ("Share", some "__init__")) fd) : FnOk P w K mg base CX0 2 (He.fAd K ("Share", some "__init__")) fd ["self", "over", "under"] (spI (He.ga K "Share") ns_Share (Row.cons tyI (Row.one tyI)) (Row.cons tyI (Row.one tyI)) (w_Share___init__)) :=
  fn_I (Γ0 := fun p y => [.ob p (He.ga K "Share") [], .fz tyI y.1, .fz tyI y.2, .no]) F sc_Share___init__ rfl (Nat.le_of_ble_eq_true rfl) (rsl_cons rsl_one) (fun _ _ => rfl) (fun cdv A outer s H E hr p y k => (y_if1 (Γ := [.ob p (He.ga K "Share") [], .fz tyI y.1, .fz tyI y.2, .no]) (xt_eq (xe_var 2 rfl rfl (.inl rfl)) xe_int) id (by exact (y_never id)) (by exact (y_set (Γ := [.ob p (He.ga K "Share") [], .fz tyI y.1, .fz tyI y.2, .no]) 3 sc_Share___init__.nd rfl (.inl rfl) (xe_call (ok_greatest_divisor T) (hr.mono (by decide)) (xa_cons (xe_abs T.l_abs (xe_var 1 rfl rfl (.inl rfl))) (xa_one (xe_abs T.l_abs (xe_var 2 rfl rfl (.inl rfl)))))) id (fun divisor_2 => (y_if (Γ := [.ob p (He.ga K "Share") [], .fz tyI y.1, .fz tyI y.2, .fz tyI divisor_2]) (fun s3 : Int => [.ob p (He.ga K "Share") [], .fz tyI y.1, .fz tyI y.2, .fz tyI s3]) (xt_lt (xe_var 2 rfl rfl (.inl rfl)) xe_int) id (fun j6 => by exact (y_set (Γ := [.ob p (He.ga K "Share") [], .fz tyI y.1, .fz tyI y.2, .fz tyI divisor_2]) 3 sc_Share___init__.nd rfl (.inl rfl) (xe_neg (xe_var 3 rfl rfl (.inl rfl))) id (fun divisor_7 => (y_join (ΓJ := fun s3 : Int => [.ob p (He.ga K "Share") [], .fz tyI y.1, .fz tyI y.2, .fz tyI s3]) divisor_7 (Cv.refl _) rfl id)))) (fun j6 => by exact (y_join (ΓJ := fun s3 : Int => [.ob p (He.ga K "Share") [], .fz tyI y.1, .fz tyI y.2, .fz tyI s3]) divisor_2 (Cv.refl _) rfl id)) (fun s3 => by exact (y_fldNew (Γ := [.ob p (He.ga K "Share") [], .fz tyI y.1, .fz tyI y.2, .fz tyI s3]) 0 [] rfl rfl (.inl rfl) T.c_Share T.n_Share_over rfl (by decide +kernel) (xe_fdiv (xe_var 1 rfl rfl (.inl rfl)) (xe_var 3 rfl rfl (.inl rfl))) id (fun y4 => (y_fldNew (Γ := [.ob p (He.ga K "Share") [("over", ⟨tyI, y4⟩)], .fz tyI y.1, .fz tyI y.2, .fz tyI s3]) 0 ["over"] rfl rfl (.inl rfl) T.c_Share T.n_Share_under rfl (by decide +kernel) (xe_fdiv (xe_var 2 rfl rfl (.inl rfl)) (xe_var 3 rfl rfl (.inl rfl))) id (fun y5 => (y_initEnd (Γ := [.ob p (He.ga K "Share") [("over", ⟨tyI, y4⟩), ("under", ⟨tyI, y5⟩)], .fz tyI y.1, .fz tyI y.2, .fz tyI s3]) (y4, y5) rfl rfl (rf_cons rf_one) rfl id))))))))))))
theorem ok_Share___init__ (T : Txt K mg) : CleI P w K mg base "Share" (He.ga K "Share") 2 (spI (He.ga K "Share") ns_Share (Row.cons tyI (Row.one tyI)) (Row.cons tyI (Row.one tyI)) (w_Share___init__)) :=
  let ⟨_, F⟩ := T.f_Share___init__
  ⟨_, _, _, fo_Share___init__ T F, T.k_Share, T.g_Share, F.bindsN (fun _ _ _ _ _ _ us hl => match us, hl with | [_, _, _], _ => rfl)⟩
/-! Table.weight_of -/
theorem sc_Table_weight_of : FnScope ["self", "text"] ["self", "text"] (defScope s_Table_weight_of) := ⟨rfl, rfl, rfl, by decide +kernel, rfl, by decide +kernel, by decide +kernel⟩
def w_Table_weight_of (y : (((List (Str × (Int))) × Int)) × Str) (k : Int → Prop) : Prop :=
  k ((look y.1.1 y.2).getD (0 : Int))
theorem fo_Table_weight_of {fd : FuncData} (T : Txt K mg) (F : FunD K "weight_of" "Table.weight_of" (defArgs s_Table_weight_of) (defBody s_Table_weight_of) (defScope s_Table_weight_of) [] [] (He.fAd K ("Table", some "weight_of")) fd) : FnOk P w K mg base CX0 1 (He.fAd K ("Table", some "weight_of")) fd ["self", "text"] (spP (Row.cons (tyO (He.ga K "Table") ns_Table (Row.cons (tyD tyI) (Row.one tyI))) (Row.one tyS)) tyI (w_Table_weight_of)) :=
  fn_P (Γ0 := fun y => [.fz (tyO (He.ga K "Table") ns_Table (Row.cons (tyD tyI) (Row.one tyI))) y.1, .fz tyS y.2]) (kn := fun _ => False) F sc_Table_weight_of rfl (Nat.le_of_ble_eq_true rfl) (rsl_cons rsl_one) (fun _ => rfl) (fun _ _ h => h.elim) (fun cdv A outer s H E hr y k => (y_ret (Γ := [.fz (tyO (He.ga K "Table") ns_Table (Row.cons (tyD tyI) (Row.one tyI))) y.1, .fz tyS y.2]) (xe_getD (hu_of hr) (xd_of (xe_fld T.c_Table T.n_Table_weights nd_Table rfl ra_zero (xe_var 0 rfl rfl (.inl rfl)))) (xe_var 1 rfl rfl (.inl rfl)) xe_int ⟨rfl, rfl, rfl, rfl⟩) id))
theorem ok_Table_weight_of (T : Txt K mg) : CleM P w K mg base (He.ga K "Table") "weight_of" 1 (spP (Row.cons (tyO (He.ga K "Table") ns_Table (Row.cons (tyD tyI) (Row.one tyI))) (Row.one tyS)) tyI (w_Table_weight_of)) :=
  let ⟨_, F⟩ := T.f_Table_weight_of
  ⟨_, _, _, fo_Table_weight_of T F, T.m_Table_weight_of, F.bindsN (fun _ _ _ _ _ _ us hl => match us, hl with | [_, _], _ => rfl)⟩
/-! Table.share_of -/
theorem sc_Table_share_of : FnScope ["self", "text"] ["self", "text"] (defScope s_Table_share_of) := ⟨rfl, rfl, rfl, by decide +kernel, rfl, by decide +kernel, by decide +kernel⟩
def w_Table_share_of (y : (((List (Str × (Int))) × Int)) × Str) (k : (Int × Int) → Prop) : Prop :=
  w_Table_weight_of (y.1, y.2) (fun r1 => w_Share___init__ (r1, y.1.2) (fun r2 => k r2))
theorem fo_Table_share_of {fd : FuncData} (T : Txt K mg) (F : FunD K "share_of" "Table.share_of" (defArgs s_Table_share_of) (defBody s_Table_share_of) (defScope s_Table_share_of) [] [] (He.fAd K ("Table", some "share_of")) fd) : FnOk P w K mg base CX0 4 (He.fAd K ("Table", some "share_of")) fd ["self", "text"] (spP (Row.cons (tyO (He.ga K "Table") ns_Table (Row.cons (tyD tyI) (Row.one tyI))) (Row.one tyS)) (tyO (He.ga K "Share") ns_Share (Row.cons tyI (Row.one tyI))) (w_Table_share_of)) :=
  fn_P (Γ0 := fun y => [.fz (tyO (He.ga K "Table") ns_Table (Row.cons (tyD tyI) (Row.one tyI))) y.1, .fz tyS y.2]) (kn := fun _ => False) F sc_Table_share_of rfl (Nat.le_of_ble_eq_true rfl) (rsl_cons rsl_one) (fun _ => rfl) (fun _ _ h => h.elim) (fun cdv A outer s H E hr y k => (y_ret (Γ := [.fz (tyO (He.ga K "Table") ns_Table (Row.cons (tyD tyI) (Row.one tyI))) y.1, .fz tyS y.2]) (xe_make (ok_Share___init__ T) (hr.mono (by decide)) (xa_cons (xe_meth T.c_Table (ok_Table_weight_of T) (hr.mono (by decide)) (by decide +kernel) (xe_var 0 rfl rfl (.inl rfl)) (xa_one (xe_var 1 rfl rfl (.inl rfl)))) (xa_one (xe_fld T.c_Table T.n_Table_whole nd_Table rfl (ra_succ ra_one) (xe_var 0 rfl rfl (.inl rfl)))))) id))
theorem ok_Table_share_of (T : Txt K mg) : CleM P w K mg base (He.ga K "Table") "share_of" 4 (spP (Row.cons (tyO (He.ga K "Table") ns_Table (Row.cons (tyD tyI) (Row.one tyI))) (Row.one tyS)) (tyO (He.ga K "Share") ns_Share (Row.cons tyI (Row.one tyI))) (w_Table_share_of)) :=
  let ⟨_, F⟩ := T.f_Table_share_of
  ⟨_, _, _, fo_Table_share_of T F, T.m_Table_share_of, F.bindsN (fun _ _ _ _ _ _ us hl => match us, hl with | [_, _], _ => rfl)⟩
/-! Table.texts -/
theorem sc_Table_texts : FnScope ["self"] ["self"] (defScope s_Table_texts) := ⟨rfl, rfl, rfl, by decide +kernel, rfl, by decide +kernel, by decide +kernel⟩
def w_Table_texts (y : (((List (Str × (Int))) × Int))) (k : List (Str) → Prop) : Prop :=
  ((y.1).length < 64 ∧ (k (sortS (keys y.1))))
theorem fo_Table_texts {fd : FuncData} (T : Txt K mg) (F : FunD K "texts" "Table.texts" (defArgs s_Table_texts) (defBody s_Table_texts) (defScope s_Table_texts) [] [] (He.fAd K ("Table", some "texts")) fd) : FnOk P w K mg base CX0 1 (He.fAd K ("Table", some "texts")) fd ["self"] (spP (Row.one (tyO (He.ga K "Table") ns_Table (Row.cons (tyD tyI) (Row.one tyI)))) (tyP tyS) (w_Table_texts)) :=
  fn_P (Γ0 := fun y => [.fz (tyO (He.ga K "Table") ns_Table (Row.cons (tyD tyI) (Row.one tyI))) y]) (kn := fun _ => False) F sc_Table_texts rfl (Nat.le_of_ble_eq_true rfl) rsl_one (fun _ => rfl) (fun _ _ h => h.elim) (fun cdv A outer s H E hr y k => (y_ret (Γ := [.fz (tyO (He.ga K "Table") ns_Table (Row.cons (tyD tyI) (Row.one tyI))) y]) (xe_tupleL T.l_tuple (xl_of (xe_f (xf_sortD rfl T.l_sorted (xd_of (xe_fld T.c_Table T.n_Table_weights nd_Table rfl ra_zero (xe_var 0 rfl rfl (.inl rfl)))))))) id))
theorem ok_Table_texts (T : Txt K mg) : CleM P w K mg base (He.ga K "Table") "texts" 1 (spP (Row.one (tyO (He.ga K "Table") ns_Table (Row.cons (tyD tyI) (Row.one tyI)))) (tyP tyS) (w_Table_texts)) :=
  let ⟨_, F⟩ := T.f_Table_texts
  ⟨_, _, _, fo_Table_texts T F, T.m_Table_texts, F.bindsN (fun _ _ _ _ _ _ us hl => match us, hl with | [_], _ => rfl)⟩
/-! _law_integer -/
theorem sc_law_integer : FnScope ["value"] ["value"] (defScope s_law_integer) := ⟨rfl, rfl, rfl, by decide +kernel, rfl, by decide +kernel, by decide +kernel⟩
def w_law_integer (y : Int) (k : Bool → Prop) : Prop :=
  k (true && (!false))
theorem fo_law_integer {fd : FuncData} (T : Txt K mg) (F : FunD K "_law_integer" "_law_integer" (defArgs s_law_integer) (defBody s_law_integer) (defScope s_law_integer) [] [] (He.fAd K ("_law_integer", none)) fd) : FnOk P w K mg base CX0 1 (He.fAd K ("_law_integer", none)) fd ["value"] (spP (Row.one tyI) tyB (w_law_integer)) :=
  fn_P (Γ0 := fun y => [.fz tyI y]) (kn := fun _ => False) F sc_law_integer rfl (Nat.le_of_ble_eq_true rfl) rsl_one (fun _ => rfl) (fun _ _ h => h.elim) (fun cdv A outer s H E hr y k => (y_ret (Γ := [.fz tyI y]) (xe_andp (xe_isi (r := true) T.l_isinstance T.l_int (by decide +kernel) (by decide +kernel) (xe_var 0 rfl rfl (.inl rfl))) (xe_one (xe_not (xe_isi (r := false) T.l_isinstance T.l_bool (by decide +kernel) (by decide +kernel) (xe_var 0 rfl rfl (.inl rfl))))) rfl) id))
theorem ok_law_integer (T : Txt K mg) : Cle P w K mg base "_law_integer" 1 (spP (Row.one tyI) tyB (w_law_integer)) :=
  let ⟨_, F⟩ := T.f_law_integer
  ⟨_, _, _, fo_law_integer T F, T.g_law_integer, F.kp, F.bindsN (fun _ _ _ _ _ _ us hl => match us, hl with | [_], _ => rfl)⟩
/-! _law_gcd -/
theorem sc_law_gcd : FnScope ["one", "other", "k"] ["one", "other"] (defScope s_law_gcd) := ⟨rfl, rfl, rfl, by decide +kernel, rfl, by decide +kernel, by decide +kernel⟩
def w_law_gcd (y : Int × Int) (k : Int → Prop) : Prop :=
  CMulW (2 : Int) (((Builtin.Int.intBits y.1 : Nat) : Int) + ((Builtin.Int.intBits y.2 : Nat) : Int)) ∧ ((-(2 ^ 62) ≤ (((2 : Int) * (((Builtin.Int.intBits y.1 : Nat) : Int) + ((Builtin.Int.intBits y.2 : Nat) : Int))) + (4 : Int)) ∧ (((2 : Int) * (((Builtin.Int.intBits y.1 : Nat) : Int) + ((Builtin.Int.intBits y.2 : Nat) : Int))) + (4 : Int)) < 2 ^ 62) ∧ (WFor (rng 0 ((((2 : Int) * (((Builtin.Int.intBits y.1 : Nat) : Int) + ((Builtin.Int.intBits y.2 : Nat) : Int))) + (4 : Int))).toNat) (y.1, y.2) (fun (nx3 : (Int × Int) → Prop) (s1 : Int × Int) x2 => if (decide (s1.2 = (0 : Int))) = true then (k s1.1) else (0 < s1.2 ∧ ((Bnd s1.2 fun one_5 => (Bnd (s1.1 % s1.2) fun other_6 => nx3 (one_5, other_6)))))) (fun (s1 : Int × Int) => k s1.1)))
theorem fo_law_gcd {fd : FuncData} (T : Txt K mg) (F : FunD K "_law_gcd" "_law_gcd" (defArgs s_law_gcd) (defBody s_law_gcd) (defScope s_law_gcd) [] [] (He.fAd K ("_law_gcd", none)) fd) : FnOk P w K mg base CX0 1 (He.fAd K ("_law_gcd", none)) fd ["one", "other"] (spP (Row.cons tyI (Row.one tyI)) tyI (w_law_gcd)) :=
  fn_P (Γ0 := fun y => [.fz tyI y.1, .fz tyI y.2, .no]) (kn := fun _ => False) F sc_law_gcd rfl (Nat.le_of_ble_eq_true rfl) (rsl_cons rsl_one) (fun _ => rfl) (fun _ _ h => h.elim) (fun cdv A outer s H E hr y k => (y_for (Γ := [.fz tyI y.1, .fz tyI y.2, .no]) (ΓT := fun (s1 : Int × Int) (x2 : Int) => [.fz tyI s1.1, .fz tyI s1.2, .fz tyI x2]) (fun s1 : Int × Int => [.fz tyI s1.1, .fz tyI s1.2, .no]) (y.1, y.2) PassesOwn.never rfl (xi_range T.l_range (xe_add (xe_mul xe_int (xe_add (xe_bits (xe_var 0 rfl rfl (.inl rfl))) (xe_bits (xe_var 1 rfl rfl (.inl rfl))))) xe_int)) (Cv.refl _) (fun s1 => (xg_name 2 sc_law_gcd.nd rfl (.inl rfl))) id (fun nx3 s1 x2 => by exact (y_if1 (Γ := [.fz tyI s1.1, .fz tyI s1.2, .fz tyI x2]) (xt_eq (xe_var 1 rfl rfl (.inl rfl)) xe_int) id (by exact (y_ret (Γ := [.fz tyI s1.1, .fz tyI s1.2, .fz tyI x2]) (xe_var 0 rfl rfl (.inl rfl)) id)) (by exact (y_par (Γ := [.fz tyI s1.1, .fz tyI s1.2, .fz tyI x2]) 0 1 sc_law_gcd.nd rfl rfl (by decide) rfl rfl rfl (xe_var 1 rfl rfl (.inl rfl)) (xe_mod (xe_int1 T.l_int (xe_var 0 rfl rfl (.inl rfl))) (xe_var 1 rfl rfl (.inl rfl))) rfl id (fun one_5 other_6 => (y_join (ΓJ := fun s1 : Int × Int => [.fz tyI s1.1, .fz tyI s1.2, .no]) (one_5, other_6) (Wk.cv (.same (.same (.no .nil)))) rfl id)))))) (fun s1 => by exact (y_ret (Γ := [.fz tyI s1.1, .fz tyI s1.2, .no]) (xe_var 0 rfl rfl (.inl rfl)) id))))
theorem ok_law_gcd (T : Txt K mg) : Cle P w K mg base "_law_gcd" 1 (spP (Row.cons tyI (Row.one tyI)) tyI (w_law_gcd)) :=
  let ⟨_, F⟩ := T.f_law_gcd
  ⟨_, _, _, fo_law_gcd T F, T.g_law_gcd, F.kp, F.bindsN (fun _ _ _ _ _ _ us hl => match us, hl with | [_, _], _ => rfl)⟩
/-! _law_is -/
theorem sc_law_is : FnScope ["got", "over", "under", "common"] ["got", "over", "under"] (defScope s_law_is) := ⟨rfl, rfl, rfl, by decide +kernel, rfl, by decide +kernel, by decide +kernel⟩
def w_law_is (y : ((Int × Int)) × Int × Int) (k : Bool → Prop) : Prop :=
  (let kk4 : Bool → Prop := fun q3 => if q3 = true then (k false) else (w_law_gcd (((y.2.1).natAbs : Int), y.2.2) (fun r5 => (Bnd r5 fun common_6 => (let kk8 : Bool → Prop := fun q7 => k q7; CMulW y.1.1 common_6 ∧ (if (decide ((y.1.1 * common_6) = y.2.1)) = true then (CMulW y.1.2 common_6 ∧ (kk8 (decide ((y.1.2 * common_6) = y.2.2)))) else kk8 false))))); if (!true) = true then kk4 true else (w_law_integer y.1.1 (fun r1 => if (!r1) = true then kk4 true else (w_law_integer y.1.2 (fun r2 => kk4 (!r2))))))
theorem fo_law_is {fd : FuncData} (T : Txt K mg) (F : FunD K "_law_is" "_law_is" (defArgs s_law_is) (defBody s_law_is) (defScope s_law_is) [] [] (He.fAd K ("_law_is", none)) fd) : FnOk P w K mg base CX0 2 (He.fAd K ("_law_is", none)) fd ["got", "over", "under"] (spP (Row.cons (tyO (He.ga K "Share") ns_Share (Row.cons tyI (Row.one tyI))) (Row.cons tyI (Row.one tyI))) tyB (w_law_is)) :=
  fn_P (Γ0 := fun y => [.fz (tyO (He.ga K "Share") ns_Share (Row.cons tyI (Row.one tyI))) y.1, .fz tyI y.2.1, .fz tyI y.2.2, .no]) (kn := fun _ => False) F sc_law_is rfl (Nat.le_of_ble_eq_true rfl) (rsl_cons (rsl_cons rsl_one)) (fun _ => rfl) (fun _ _ h => h.elim) (fun cdv A outer s H E hr y k => (y_if1 (Γ := [.fz (tyO (He.ga K "Share") ns_Share (Row.cons tyI (Row.one tyI))) y.1, .fz tyI y.2.1, .fz tyI y.2.2, .no]) (xt_w (xw_or (xt_not (xt_val (xe_isiO T.l_isinstance T.g_Share T.i_Share (xe_var 0 rfl rfl (.inl rfl))))) (xw_or (xt_not (xt_val (xe_call (ok_law_integer T) (hr.mono (by decide)) (xa_one (xe_fld T.c_Share T.n_Share_over nd_Share rfl ra_zero (xe_var 0 rfl rfl (.inl rfl))))))) (xw_or1 (xt_not (xt_val (xe_call (ok_law_integer T) (hr.mono (by decide)) (xa_one (xe_fld T.c_Share T.n_Share_under nd_Share rfl (ra_succ ra_one) (xe_var 0 rfl rfl (.inl rfl))))))))))) id (by exact (y_ret (Γ := [.fz (tyO (He.ga K "Share") ns_Share (Row.cons tyI (Row.one tyI))) y.1, .fz tyI y.2.1, .fz tyI y.2.2, .no]) xe_bl id)) (by exact (y_set (Γ := [.fz (tyO (He.ga K "Share") ns_Share (Row.cons tyI (Row.one tyI))) y.1, .fz tyI y.2.1, .fz tyI y.2.2, .no]) 3 sc_law_is.nd rfl (.inl rfl) (xe_call (ok_law_gcd T) (hr.mono (by decide)) (xa_cons (xe_abs T.l_abs (xe_var 1 rfl rfl (.inl rfl))) (xa_one (xe_var 2 rfl rfl (.inl rfl))))) id (fun common_6 => (y_ret (Γ := [.fz (tyO (He.ga K "Share") ns_Share (Row.cons tyI (Row.one tyI))) y.1, .fz tyI y.2.1, .fz tyI y.2.2, .fz tyI common_6]) (xe_and (xe_eq (xe_mul (xe_fld T.c_Share T.n_Share_over nd_Share rfl ra_zero (xe_var 0 rfl rfl (.inl rfl))) (xe_var 3 rfl rfl (.inl rfl))) (xe_var 1 rfl rfl (.inl rfl))) (xe_one (xe_eq (xe_mul (xe_fld T.c_Share T.n_Share_under nd_Share rfl (ra_succ ra_one) (xe_var 0 rfl rfl (.inl rfl))) (xe_var 3 rfl rfl (.inl rfl))) (xe_var 2 rfl rfl (.inl rfl))))) id))))))
theorem ok_law_is (T : Txt K mg) : Cle P w K mg base "_law_is" 2 (spP (Row.cons (tyO (He.ga K "Share") ns_Share (Row.cons tyI (Row.one tyI))) (Row.cons tyI (Row.one tyI))) tyB (w_law_is)) :=
  let ⟨_, F⟩ := T.f_law_is
  ⟨_, _, _, fo_law_is T F, T.g_law_is, F.kp, F.bindsN (fun _ _ _ _ _ _ us hl => match us, hl with | [_, _, _], _ => rfl)⟩
/-! _law_weight_in -/
theorem sc_law_weight_in : FnScope ["pairs", "text", "known", "weight"] ["pairs", "text"] (defScope s_law_weight_in) := ⟨rfl, rfl, rfl, by decide +kernel, rfl, by decide +kernel, by decide +kernel⟩
def w_law_weight_in (y : (List (Str × Int)) × Str) (k : Int → Prop) : Prop :=
  WFor y.1 () (fun (nx3 : Unit → Prop) (s1 : Unit) x2 => if (decide (x2.1 = y.2)) = true then (k x2.2) else (nx3 ())) (fun (s1 : Unit) => k (0 : Int))
theorem fo_law_weight_in {fd : FuncData} (T : Txt K mg) (F : FunD K "_law_weight_in" "_law_weight_in" (defArgs s_law_weight_in) (defBody s_law_weight_in) (defScope s_law_weight_in) [] [] (He.fAd K ("_law_weight_in", none)) fd) : FnOk P w K mg base CX0 1 (He.fAd K ("_law_weight_in", none)) fd ["pairs", "text"] (spP (Row.cons (tyL (tyT (Row.cons tyS (Row.one tyI)))) (Row.one tyS)) tyI (w_law_weight_in)) :=
  fn_P (Γ0 := fun y => [.fz (tyL (tyT (Row.cons tyS (Row.one tyI)))) y.1, .fz tyS y.2, .no, .no]) (kn := fun _ => False) F sc_law_weight_in rfl (Nat.le_of_ble_eq_true rfl) (rsl_cons rsl_one) (fun _ => rfl) (fun _ _ h => h.elim) (fun cdv A outer s H E hr y k => (y_for (Γ := [.fz (tyL (tyT (Row.cons tyS (Row.one tyI)))) y.1, .fz tyS y.2, .no, .no]) (ΓT := fun (s1 : Unit) (x2 : Str × Int) => [.fz (tyL (tyT (Row.cons tyS (Row.one tyI)))) y.1, .fz tyS y.2, .fz tyS x2.1, .fz tyI x2.2]) (fun s1 : Unit => [.fz (tyL (tyT (Row.cons tyS (Row.one tyI)))) y.1, .fz tyS y.2, .no, .no]) () PassesOwn.never rfl (xi_list (xe_var 0 rfl rfl (.inl rfl))) (Cv.refl _) (fun s1 => (xg_tup rfl (xgs_cons (xg_name 2 sc_law_weight_in.nd rfl (.inl rfl)) (fun _ => (xgs_one (xg_name 3 sc_law_weight_in.nd rfl (.inl rfl))))))) id (fun nx3 s1 x2 => by exact (y_if1 (Γ := [.fz (tyL (tyT (Row.cons tyS (Row.one tyI)))) y.1, .fz tyS y.2, .fz tyS x2.1, .fz tyI x2.2]) (xt_eq (xe_var 2 rfl rfl (.inl rfl)) (xe_var 1 rfl rfl (.inl rfl))) id (by exact (y_ret (Γ := [.fz (tyL (tyT (Row.cons tyS (Row.one tyI)))) y.1, .fz tyS y.2, .fz tyS x2.1, .fz tyI x2.2]) (xe_var 3 rfl rfl (.inl rfl)) id)) (by exact (y_join (ΓJ := fun s1 : Unit => [.fz (tyL (tyT (Row.cons tyS (Row.one tyI)))) y.1, .fz tyS y.2, .no, .no]) () (Wk.cv (.same (.same (.no (.no .nil))))) rfl id)))) (fun s1 => by exact (y_ret (Γ := [.fz (tyL (tyT (Row.cons tyS (Row.one tyI)))) y.1, .fz tyS y.2, .no, .no]) xe_int id))))
theorem ok_law_weight_in (T : Txt K mg) : Cle P w K mg base "_law_weight_in" 1 (spP (Row.cons (tyL (tyT (Row.cons tyS (Row.one tyI)))) (Row.one tyS)) tyI (w_law_weight_in)) :=
  let ⟨_, F⟩ := T.f_law_weight_in
  ⟨_, _, _, fo_law_weight_in T F, T.g_law_weight_in, F.kp, F.bindsN (fun _ _ _ _ _ _ us hl => match us, hl with | [_, _], _ => rfl)⟩
/-! _law_table_is -/
theorem sc_law_table_is : FnScope ["table", "pairs", "others", "whole", "texts", "got", "text", "weight", "told", "pair"] ["table", "pairs", "others"] (defScope s_law_table_is) := ⟨rfl, rfl, rfl, by decide +kernel, rfl, by decide +kernel, by decide +kernel⟩
def w_law_table_is (y : (((List (Str × (Int))) × Int)) × (List (Str × Int)) × (List (Str))) (k : Bool → Prop) : Prop :=
  (y.2.1).length < sizeLine ∧ ((Bnd (((y.2.1.map fun x1 => x1.2)).sum) fun whole_2 => (y.2.1).length < sizeLine ∧ ((((y.2.1.map fun x3 => x3.1)).length < 64 ∧ ((Bnd (sortS (y.2.1.map fun x3 => x3.1)) fun texts_4 => w_law_integer y.1.2 (fun r5 => if ((!r5) || (!decide (y.1.2 = whole_2))) = true then (k false) else (w_Table_texts y.1 (fun r6 => (Bnd r6 fun got_7 => if ((!true) || (!decide (got_7 = texts_4))) = true then (k false) else ((texts_4).length + (y.2.2).length ≤ sizeLine ∧ (WFor (texts_4 ++ y.2.2) () (fun (nx10 : Unit → Prop) (s8 : Unit) x9 => w_law_weight_in (y.2.1, x9) (fun r12 => (Bnd r12 fun weight_13 => w_Table_weight_of (y.1, x9) (fun r14 => (Bnd r14 fun told_15 => (let kk20 : Bool → Prop := fun q19 => if q19 = true then (k false) else (nx10 ()); w_law_integer told_15 (fun r16 => if (!r16) = true then kk20 true else (if (!decide (told_15 = weight_13)) = true then kk20 true else (w_Table_share_of (y.1, x9) (fun r17 => w_law_is (r17, weight_13, whole_2) (fun r18 => kk20 (!r18)))))))))))) (fun (s8 : Unit) => k true)))))))))))))
theorem fo_law_table_is {fd : FuncData} (T : Txt K mg) (F : FunD K "_law_table_is" "_law_table_is" (defArgs s_law_table_is) (defBody s_law_table_is) (defScope s_law_table_is) [] [] (He.fAd K ("_law_table_is", none)) fd) : FnOk P w K mg base CX0 5 (He.fAd K ("_law_table_is", none)) fd ["table", "pairs", "others"] (spP (Row.cons (tyO (He.ga K "Table") ns_Table (Row.cons (tyD tyI) (Row.one tyI))) (Row.cons (tyL (tyT (Row.cons tyS (Row.one tyI)))) (Row.one (tyL tyS)))) tyB (w_law_table_is)) :=
  fn_P (Γ0 := fun y => [.fz (tyO (He.ga K "Table") ns_Table (Row.cons (tyD tyI) (Row.one tyI))) y.1, .fz (tyL (tyT (Row.cons tyS (Row.one tyI)))) y.2.1, .fz (tyL tyS) y.2.2, .no, .no, .no, .no, .no, .no, .no]) (kn := fun _ => False) F sc_law_table_is rfl (Nat.le_of_ble_eq_true rfl) (rsl_cons (rsl_cons rsl_one)) (fun _ => rfl) (fun _ _ h => h.elim) (fun cdv A outer s H E hr y k => (y_set (Γ := [.fz (tyO (He.ga K "Table") ns_Table (Row.cons (tyD tyI) (Row.one tyI))) y.1, .fz (tyL (tyT (Row.cons tyS (Row.one tyI)))) y.2.1, .fz (tyL tyS) y.2.2, .no, .no, .no, .no, .no, .no, .no]) 3 sc_law_table_is.nd rfl (.inl rfl) (xe_sum rfl T.l_sum (xl_of (xe_f (xf_c (xc_lcm (f := fun x1 => x1.2) (B := tyI) (ΓT := fun (x1 : Str × Int) => [.fz (tyO (He.ga K "Table") ns_Table (Row.cons (tyD tyI) (Row.one tyI))) y.1, .fz (tyL (tyT (Row.cons tyS (Row.one tyI)))) y.2.1, .fz (tyL tyS) y.2.2, .no, .no, .no, .no, .no, .no, .fz (tyT (Row.cons tyS (Row.one tyI))) x1]) [("pair", 9)] rfl sc_law_table_is.nd (xi_list (xe_var 1 rfl rfl (.inl rfl))) (by show blkC ["table", "pairs", "others", "whole", "texts", "got", "text", "weight", "told", "pair"] (defScope s_law_table_is) _ [("pair", 9)] = true; decide +kernel) (fun _ _ _ _ _ => (xg_name 9 sc_law_table_is.nd rfl (.inl rfl))) (by decide) (fun _ _ _ _ _ x1 => (xe_itT (xe_var 9 rfl rfl (.inl rfl)) (ra_succ ra_one) xe_int (fun _ _ => rfl))) rfl))))) id (fun whole_2 => (y_set (Γ := [.fz (tyO (He.ga K "Table") ns_Table (Row.cons (tyD tyI) (Row.one tyI))) y.1, .fz (tyL (tyT (Row.cons tyS (Row.one tyI)))) y.2.1, .fz (tyL tyS) y.2.2, .fz tyI whole_2, .no, .no, .no, .no, .no, .no]) 4 sc_law_table_is.nd rfl (.inl rfl) (xe_f (xf_sortS T.l_sorted (xl_of (xe_f (xf_c (xc_lcm (f := fun x3 => x3.1) (B := tyS) (ΓT := fun (x3 : Str × Int) => [.fz (tyO (He.ga K "Table") ns_Table (Row.cons (tyD tyI) (Row.one tyI))) y.1, .fz (tyL (tyT (Row.cons tyS (Row.one tyI)))) y.2.1, .fz (tyL tyS) y.2.2, .fz tyI whole_2, .no, .no, .no, .no, .no, .fz (tyT (Row.cons tyS (Row.one tyI))) x3]) [("pair", 9)] rfl sc_law_table_is.nd (xi_list (xe_var 1 rfl rfl (.inl rfl))) (by show blkC ["table", "pairs", "others", "whole", "texts", "got", "text", "weight", "told", "pair"] (defScope s_law_table_is) _ [("pair", 9)] = true; decide +kernel) (fun _ _ _ _ _ => (xg_name 9 sc_law_table_is.nd rfl (.inl rfl))) (by decide) (fun _ _ _ _ _ x3 => (xe_itT (xe_var 9 rfl rfl (.inl rfl)) ra_zero xe_int (fun _ _ => rfl))) rfl)))))) id (fun texts_4 => (y_if1 (Γ := [.fz (tyO (He.ga K "Table") ns_Table (Row.cons (tyD tyI) (Row.one tyI))) y.1, .fz (tyL (tyT (Row.cons tyS (Row.one tyI)))) y.2.1, .fz (tyL tyS) y.2.2, .fz tyI whole_2, .fz (tyL tyS) texts_4, .no, .no, .no, .no, .no]) (xt_w (xw_orp (xt_not (xt_val (xe_call (ok_law_integer T) (hr.mono (by decide)) (xa_one (xe_fld T.c_Table T.n_Table_whole nd_Table rfl (ra_succ ra_one) (xe_var 0 rfl rfl (.inl rfl))))))) (xw_or1 (xt_ne (xe_fld T.c_Table T.n_Table_whole nd_Table rfl (ra_succ ra_one) (xe_var 0 rfl rfl (.inl rfl))) (xe_var 3 rfl rfl (.inl rfl)))) rfl)) id (by exact (y_ret (Γ := [.fz (tyO (He.ga K "Table") ns_Table (Row.cons (tyD tyI) (Row.one tyI))) y.1, .fz (tyL (tyT (Row.cons tyS (Row.one tyI)))) y.2.1, .fz (tyL tyS) y.2.2, .fz tyI whole_2, .fz (tyL tyS) texts_4, .no, .no, .no, .no, .no]) xe_bl id)) (by exact (y_set (Γ := [.fz (tyO (He.ga K "Table") ns_Table (Row.cons (tyD tyI) (Row.one tyI))) y.1, .fz (tyL (tyT (Row.cons tyS (Row.one tyI)))) y.2.1, .fz (tyL tyS) y.2.2, .fz tyI whole_2, .fz (tyL tyS) texts_4, .no, .no, .no, .no, .no]) 5 sc_law_table_is.nd rfl (.inl rfl) (xe_meth0 T.c_Table (ok_Table_texts T) (hr.mono (by decide)) (by decide +kernel) (xe_var 0 rfl rfl (.inl rfl))) id (fun got_7 => (y_if1 (Γ := [.fz (tyO (He.ga K "Table") ns_Table (Row.cons (tyD tyI) (Row.one tyI))) y.1, .fz (tyL (tyT (Row.cons tyS (Row.one tyI)))) y.2.1, .fz (tyL tyS) y.2.2, .fz tyI whole_2, .fz (tyL tyS) texts_4, .fz (tyP tyS) got_7, .no, .no, .no, .no]) (xt_w (xw_orp (xt_not (xt_val (xe_isi (r := true) T.l_isinstance T.l_tuple (by decide +kernel) (by decide +kernel) (xe_var 5 rfl rfl (.inl rfl))))) (xw_or1 (xt_neD (hr.units) (xe_f (xf_listP T.l_list (xe_var 5 rfl rfl (.inl rfl)))) (xe_var 4 rfl rfl (.inl rfl)))) rfl)) id (by exact (y_ret (Γ := [.fz (tyO (He.ga K "Table") ns_Table (Row.cons (tyD tyI) (Row.one tyI))) y.1, .fz (tyL (tyT (Row.cons tyS (Row.one tyI)))) y.2.1, .fz (tyL tyS) y.2.2, .fz tyI whole_2, .fz (tyL tyS) texts_4, .fz (tyP tyS) got_7, .no, .no, .no, .no]) xe_bl id)) (by exact (y_for (Γ := [.fz (tyO (He.ga K "Table") ns_Table (Row.cons (tyD tyI) (Row.one tyI))) y.1, .fz (tyL (tyT (Row.cons tyS (Row.one tyI)))) y.2.1, .fz (tyL tyS) y.2.2, .fz tyI whole_2, .fz (tyL tyS) texts_4, .fz (tyP tyS) got_7, .no, .no, .no, .no]) (ΓT := fun (s8 : Unit) (x9 : Str) => [.fz (tyO (He.ga K "Table") ns_Table (Row.cons (tyD tyI) (Row.one tyI))) y.1, .fz (tyL (tyT (Row.cons tyS (Row.one tyI)))) y.2.1, .fz (tyL tyS) y.2.2, .fz tyI whole_2, .fz (tyL tyS) texts_4, .fz (tyP tyS) got_7, .fz tyS x9, .no, .no, .no]) (fun s8 : Unit => [.fz (tyO (He.ga K "Table") ns_Table (Row.cons (tyD tyI) (Row.one tyI))) y.1, .fz (tyL (tyT (Row.cons tyS (Row.one tyI)))) y.2.1, .fz (tyL tyS) y.2.2, .fz tyI whole_2, .fz (tyL tyS) texts_4, .fz (tyP tyS) got_7, .no, .no, .no, .no]) () PassesOwn.never rfl (xi_list (xe_f (xf_cat (xl_of (xe_var 4 rfl rfl (.inl rfl))) (xl_of (xe_var 2 rfl rfl (.inl rfl)))))) (Cv.refl _) (fun s8 => (xg_name 6 sc_law_table_is.nd rfl (.inl rfl))) id (fun nx10 s8 x9 => by exact (y_set (Γ := [.fz (tyO (He.ga K "Table") ns_Table (Row.cons (tyD tyI) (Row.one tyI))) y.1, .fz (tyL (tyT (Row.cons tyS (Row.one tyI)))) y.2.1, .fz (tyL tyS) y.2.2, .fz tyI whole_2, .fz (tyL tyS) texts_4, .fz (tyP tyS) got_7, .fz tyS x9, .no, .no, .no]) 7 sc_law_table_is.nd rfl (.inl rfl) (xe_call (ok_law_weight_in T) (hr.mono (by decide)) (xa_cons (xe_var 1 rfl rfl (.inl rfl)) (xa_one (xe_var 6 rfl rfl (.inl rfl))))) id (fun weight_13 => (y_set (Γ := [.fz (tyO (He.ga K "Table") ns_Table (Row.cons (tyD tyI) (Row.one tyI))) y.1, .fz (tyL (tyT (Row.cons tyS (Row.one tyI)))) y.2.1, .fz (tyL tyS) y.2.2, .fz tyI whole_2, .fz (tyL tyS) texts_4, .fz (tyP tyS) got_7, .fz tyS x9, .fz tyI weight_13, .no, .no]) 8 sc_law_table_is.nd rfl (.inl rfl) (xe_meth T.c_Table (ok_Table_weight_of T) (hr.mono (by decide)) (by decide +kernel) (xe_var 0 rfl rfl (.inl rfl)) (xa_one (xe_var 6 rfl rfl (.inl rfl)))) id (fun told_15 => (y_if1 (Γ := [.fz (tyO (He.ga K "Table") ns_Table (Row.cons (tyD tyI) (Row.one tyI))) y.1, .fz (tyL (tyT (Row.cons tyS (Row.one tyI)))) y.2.1, .fz (tyL tyS) y.2.2, .fz tyI whole_2, .fz (tyL tyS) texts_4, .fz (tyP tyS) got_7, .fz tyS x9, .fz tyI weight_13, .fz tyI told_15, .no]) (xt_w (xw_or (xt_not (xt_val (xe_call (ok_law_integer T) (hr.mono (by decide)) (xa_one (xe_var 8 rfl rfl (.inl rfl)))))) (xw_or (xt_ne (xe_var 8 rfl rfl (.inl rfl)) (xe_var 7 rfl rfl (.inl rfl))) (xw_or1 (xt_not (xt_val (xe_call (ok_law_is T) (hr.mono (by decide)) (xa_cons (xe_meth T.c_Table (ok_Table_share_of T) (hr.mono (by decide)) (by decide +kernel) (xe_var 0 rfl rfl (.inl rfl)) (xa_one (xe_var 6 rfl rfl (.inl rfl)))) (xa_cons (xe_var 7 rfl rfl (.inl rfl)) (xa_one (xe_var 3 rfl rfl (.inl rfl)))))))))))) id (by exact (y_ret (Γ := [.fz (tyO (He.ga K "Table") ns_Table (Row.cons (tyD tyI) (Row.one tyI))) y.1, .fz (tyL (tyT (Row.cons tyS (Row.one tyI)))) y.2.1, .fz (tyL tyS) y.2.2, .fz tyI whole_2, .fz (tyL tyS) texts_4, .fz (tyP tyS) got_7, .fz tyS x9, .fz tyI weight_13, .fz tyI told_15, .no]) xe_bl id)) (by exact (y_join (ΓJ := fun s8 : Unit => [.fz (tyO (He.ga K "Table") ns_Table (Row.cons (tyD tyI) (Row.one tyI))) y.1, .fz (tyL (tyT (Row.cons tyS (Row.one tyI)))) y.2.1, .fz (tyL tyS) y.2.2, .fz tyI whole_2, .fz (tyL tyS) texts_4, .fz (tyP tyS) got_7, .no, .no, .no, .no]) () (Wk.cv (.same (.same (.same (.same (.same (.same (.no (.no (.no (.same .nil))))))))))) rfl id)))))))) (fun s8 => by exact (y_ret (Γ := [.fz (tyO (He.ga K "Table") ns_Table (Row.cons (tyD tyI) (Row.one tyI))) y.1, .fz (tyL (tyT (Row.cons tyS (Row.one tyI)))) y.2.1, .fz (tyL tyS) y.2.2, .fz tyI whole_2, .fz (tyL tyS) texts_4, .fz (tyP tyS) got_7, .no, .no, .no, .no]) xe_bl id))))))))))))))
theorem ok_law_table_is (T : Txt K mg) : Cle P w K mg base "_law_table_is" 5 (spP (Row.cons (tyO (He.ga K "Table") ns_Table (Row.cons (tyD tyI) (Row.one tyI))) (Row.cons (tyL (tyT (Row.cons tyS (Row.one tyI)))) (Row.one (tyL tyS)))) tyB (w_law_table_is)) :=
  let ⟨_, F⟩ := T.f_law_table_is
  ⟨_, _, _, fo_law_table_is T F, T.g_law_table_is, F.kp, F.bindsN (fun _ _ _ _ _ _ us hl => match us, hl with | [_, _, _], _ => rfl)⟩
/-! _law_body -/
theorem sc_law_body : FnScope ["script", "state", "pairs", "others", "second", "form", "handed", "table", "twin", "pair"] ["script"] (defScope s_law_body) := ⟨rfl, rfl, rfl, by decide +kernel, rfl, by decide +kernel, by decide +kernel⟩
def w_law_body (y : (List Int)) (k : Bool → Prop) : Prop :=
  (w_law_start y (fun u1 => Ist u1 ∧ (w_law_pairs (24 : Int) (fun r2 => (Bnd r2 fun pairs_3 => w_law_others pairs_3 (fun r4 => (Bnd r4 fun others_5 => WLc pairs_3 (fun x6 kk8 => kk8 true) (fun x6 kk9 => w_law_draw (9 : Int) (fun r7 => kk9 (x6.1, ((1 : Int) + r7)))) (fun r10 => (Bnd r10 fun second_11 => w_law_draw (3 : Int) (fun r12 => (Bnd r12 fun form_13 => (Jn (fun s14 : (((List (Str × (Int))) × Int)) => w_law_table_is (s14, pairs_3, others_5) (fun r15 => if (!r15) = true then (k false) else ((second_11).length < sizeLine ∧ (w_Table___init__ (second_11.map fun x16 => x16) (fun r17 => (Bnd r17 fun twin_18 => w_law_table_is (twin_18, second_11, others_5) (fun r19 => if (!r19) = true then (k false) else (let kk23 : Bool → Prop := fun q22 => k q22; w_law_table_is (s14, pairs_3, others_5) (fun r20 => if r20 = true then (w_law_table_is (twin_18, second_11, others_5) (fun r21 => kk23 r21)) else kk23 false))))))))) fun j24 => if (decide (form_13 = (0 : Int))) = true then ((pairs_3).length < sizeLine ∧ ((Bnd (pairs_3.map fun x25 => x25) fun handed_26 => w_Table___init__ handed_26 (fun r28 => (Bnd r28 fun table_29 => (pairs_3).length < sizeLine ∧ (if (!decide (handed_26 = (pairs_3.map fun x30 => x30))) = true then (k false) else (0 ≤ (0 : Int) ∧ ∃ y34, (handed_26)[((0 : Int)).toNat]? = some y34 ∧ (∀ n35 : Int, (0 ≤ (0 : Int) ∧ ∃ y32, (handed_26)[((0 : Int)).toNat]? = some y32 ∧ (0 ≤ (((pairs_3).length : Int) - (1 : Int)) ∧ ∃ y38, (handed_26)[((((pairs_3).length : Int) - (1 : Int))).toNat]? = some y38 ∧ (((handed_26).length + 0 < sizeLine ∧ (j24 table_29))))))))))))) else (Jn (fun s41 : (((List (Str × (Int))) × Int)) => j24 s41) fun j42 => if (decide (form_13 = (1 : Int))) = true then (Bnd pairs_3 fun handed_43 => w_Table___init__ handed_43 (fun r45 => (Bnd r45 fun table_46 => if (!decide (handed_43 = pairs_3)) = true then (k false) else (w_law_draw ((pairs_3).length : Int) (fun r47 => (0 ≤ r47 ∧ (r47).toNat < (handed_43).length ∧ (((handed_43).length + 0 < sizeLine ∧ (j42 table_46))))))))) else (w_Table___init__ pairs_3 (fun r50 => (Bnd r50 fun table_51 => j42 table_51))))))))))))))))
theorem fo_law_body {fd : FuncData} (T : Txt K mg) (F : FunD K "_law_body" "_law_body" (defArgs s_law_body) (defBody s_law_body) (defScope s_law_body) [] [] (He.fAd K ("_law_body", none)) fd) : FnOk P w K mg base CX0 6 (He.fAd K ("_law_body", none)) fd ["script"] (spP (Row.one (tyZ K)) tyB (w_law_body)) :=
  fn_P (Γ0 := fun y => [.fz (tyZ K) y, .no, .no, .no, .no, .no, .no, .no, .no, .no]) (kn := fun _ => False) F sc_law_body rfl (Nat.le_of_ble_eq_true rfl) rsl_one (fun _ => rfl) (fun _ _ h => h.elim) (fun cdv A outer s H E hr y k => (y_newMx (Γ := [.fz (tyZ K) y, .no, .no, .no, .no, .no, .no, .no, .no, .no]) 1 sc_law_body.nd rfl (.inr rfl) (xn_call (ok_law_start T) (hr.mono (by decide)) (xa_one (xe_var 0 rfl rfl (.inl rfl)))) id (fun _ u1 => y_st 1 rfl id (y_set (Γ := [.fz (tyZ K) y, .st, .no, .no, .no, .no, .no, .no, .no, .no]) 2 sc_law_body.nd rfl (.inl rfl) (xe_callS 1 rfl rfl (.inr (.inl rfl)) (ok_law_pairs T) (hr.mono (by decide)) (xa_one xe_int)) id (fun pairs_3 => (y_set (Γ := [.fz (tyZ K) y, .st, .fz (tyL (tyT (Row.cons tyS (Row.one tyI)))) pairs_3, .no, .no, .no, .no, .no, .no, .no]) 3 sc_law_body.nd rfl (.inl rfl) (xe_callS 1 rfl rfl (.inr (.inl rfl)) (ok_law_others T) (hr.mono (by decide)) (xa_one (xe_var 2 rfl rfl (.inl rfl)))) id (fun others_5 => (y_setC (Γ := [.fz (tyZ K) y, .st, .fz (tyL (tyT (Row.cons tyS (Row.one tyI)))) pairs_3, .fz (tyL tyS) others_5, .no, .no, .no, .no, .no, .no]) 4 rfl rfl (xc_lc (B := (tyT (Row.cons tyS (Row.one tyI)))) (ΓT := fun (x6 : Str × Int) => [.fz (tyZ K) y, .st, .fz (tyL (tyT (Row.cons tyS (Row.one tyI)))) pairs_3, .fz (tyL tyS) others_5, .no, .no, .no, .no, .no, .fz (tyT (Row.cons tyS (Row.one tyI))) x6]) [("pair", 9)] rfl sc_law_body.nd (xi_list (xe_var 2 rfl rfl (.inl rfl))) (by show blkC ["script", "state", "pairs", "others", "second", "form", "handed", "table", "twin", "pair"] (defScope s_law_body) _ [("pair", 9)] = true; decide +kernel) (fun _ _ _ _ _ => (xg_name 9 sc_law_body.nd rfl (.inl rfl))) (by decide) (fun _ _ _ _ _ x6 => xts_nil) (fun _ _ _ _ _ x6 => (xe_tup (xa_cons (xe_itT (xe_var 9 rfl rfl (.inl rfl)) ra_zero xe_int (fun _ _ => rfl)) (xa_one (xe_add xe_int (xe_callS 1 rfl rfl (.inr (.inl rfl)) (ok_law_draw T) (hr.mono (by decide)) (xa_one xe_int)))))))) id (fun second_11 => xb_cv (cv_ml 4 rfl) (y_set (Γ := [.fz (tyZ K) y, .st, .fz (tyL (tyT (Row.cons tyS (Row.one tyI)))) pairs_3, .fz (tyL tyS) others_5, .fz (tyL (tyT (Row.cons tyS (Row.one tyI)))) second_11, .no, .no, .no, .no, .no]) 5 sc_law_body.nd rfl (.inl rfl) (xe_callS 1 rfl rfl (.inr (.inl rfl)) (ok_law_draw T) (hr.mono (by decide)) (xa_one xe_int)) id (fun form_13 => (y_if (Γ := [.fz (tyZ K) y, .st, .fz (tyL (tyT (Row.cons tyS (Row.one tyI)))) pairs_3, .fz (tyL tyS) others_5, .fz (tyL (tyT (Row.cons tyS (Row.one tyI)))) second_11, .fz tyI form_13, .no, .no, .no, .no]) (fun s14 : (((List (Str × (Int))) × Int)) => [.fz (tyZ K) y, .st, .fz (tyL (tyT (Row.cons tyS (Row.one tyI)))) pairs_3, .fz (tyL tyS) others_5, .fz (tyL (tyT (Row.cons tyS (Row.one tyI)))) second_11, .fz tyI form_13, .no, .fz (tyO (He.ga K "Table") ns_Table (Row.cons (tyD tyI) (Row.one tyI))) s14, .no, .no]) (xt_eq (xe_var 5 rfl rfl (.inl rfl)) xe_int) id (fun j24 => by exact (y_newRgC (A2 := (t2L (t2M (Row2.cons (t2N tyS) (Row2.one (t2N tyI)))))) (Γ := [.fz (tyZ K) y, .st, .fz (tyL (tyT (Row.cons tyS (Row.one tyI)))) pairs_3, .fz (tyL tyS) others_5, .fz (tyL (tyT (Row.cons tyS (Row.one tyI)))) second_11, .fz tyI form_13, .no, .no, .no, .no]) 6 rfl rfl (xc_rlcm (f := fun x25 => x25) (B2 := (t2M (Row2.cons (t2N tyS) (Row2.one (t2N tyI))))) (ΓT := fun (x25 : Str × Int) => [.fz (tyZ K) y, .st, .fz (tyL (tyT (Row.cons tyS (Row.one tyI)))) pairs_3, .fz (tyL tyS) others_5, .fz (tyL (tyT (Row.cons tyS (Row.one tyI)))) second_11, .fz tyI form_13, .no, .no, .no, .fz (tyT (Row.cons tyS (Row.one tyI))) x25]) [("pair", 9)] rfl sc_law_body.nd (xi_list (xe_var 2 rfl rfl (.inl rfl))) (by show blkC ["script", "state", "pairs", "others", "second", "form", "handed", "table", "twin", "pair"] (defScope s_law_body) _ [("pair", 9)] = true; decide +kernel) (fun _ _ _ _ _ => (xg_name 9 sc_law_body.nd rfl (.inl rfl))) (by decide) (fun _ _ _ _ _ x25 => (xr_listT T.l_list (xe_var 9 rfl rfl (.inl rfl)))) rfl) id (fun Rg27 handed_26 => (y_callRg (Γ := [.fz (tyZ K) y, .st, .fz (tyL (tyT (Row.cons tyS (Row.one tyI)))) pairs_3, .fz (tyL tyS) others_5, .fz (tyL (tyT (Row.cons tyS (Row.one tyI)))) second_11, .fz tyI form_13, .rg Rg27 Rg27 true 0 (t2L (t2M (Row2.cons (t2N tyS) (Row2.one (t2N tyI))))) handed_26, .no, .no, .no]) 7 6 rfl (by decide) sc_law_body.nd rfl (.inl rfl) (xe_make (ok_Table___init___v1 T) (hr.mono (by decide)) (xa_one (xe_var 6 rfl rfl (.inl rfl)))) id (fun table_29 => (y_if1Rg (Γ := [.fz (tyZ K) y, .st, .fz (tyL (tyT (Row.cons tyS (Row.one tyI)))) pairs_3, .fz (tyL tyS) others_5, .fz (tyL (tyT (Row.cons tyS (Row.one tyI)))) second_11, .fz tyI form_13, .rg Rg27 Rg27 true 0 (t2L (t2M (Row2.cons (t2N tyS) (Row2.one (t2N tyI))))) handed_26, .fz (tyO (He.ga K "Table") ns_Table (Row.cons (tyD tyI) (Row.one tyI))) table_29, .no, .no]) 6 rfl (xt_neD (hr.units) (xe_var 6 rfl rfl (.inl rfl)) (xe_f (xf_c (xc_lcm (f := fun x30 => x30) (B := (tyM (Row.cons tyS (Row.one tyI)))) (ΓT := fun (x30 : Str × Int) => [.fz (tyZ K) y, .no, .fz (tyL (tyT (Row.cons tyS (Row.one tyI)))) pairs_3, .fz (tyL tyS) others_5, .fz (tyL (tyT (Row.cons tyS (Row.one tyI)))) second_11, .fz tyI form_13, .fz (tyL (tyM (Row.cons tyS (Row.one tyI)))) handed_26, .fz (tyO (He.ga K "Table") ns_Table (Row.cons (tyD tyI) (Row.one tyI))) table_29, .no, .fz (tyT (Row.cons tyS (Row.one tyI))) x30]) [("pair", 9)] rfl sc_law_body.nd (xi_list (xe_var 2 rfl rfl (.inl rfl))) (by show blkC ["script", "state", "pairs", "others", "second", "form", "handed", "table", "twin", "pair"] (defScope s_law_body) _ [("pair", 9)] = true; decide +kernel) (fun _ _ _ _ _ => (xg_name 9 sc_law_body.nd rfl (.inl rfl))) (by decide) (fun _ _ _ _ _ x30 => (xe_listT T.l_list (xe_var 9 rfl rfl (.inl rfl)))) rfl)))) id (by exact (y_ret (Γ := [.fz (tyZ K) y, .st, .fz (tyL (tyT (Row.cons tyS (Row.one tyI)))) pairs_3, .fz (tyL tyS) others_5, .fz (tyL (tyT (Row.cons tyS (Row.one tyI)))) second_11, .fz tyI form_13, .rg Rg27 Rg27 true 0 (t2L (t2M (Row2.cons (t2N tyS) (Row2.one (t2N tyI))))) handed_26, .fz (tyO (He.ga K "Table") ns_Table (Row.cons (tyD tyI) (Row.one tyI))) table_29, .no, .no]) xe_bl id)) (by exact (y_mutI (Γ := [.fz (tyZ K) y, .st, .fz (tyL (tyT (Row.cons tyS (Row.one tyI)))) pairs_3, .fz (tyL tyS) others_5, .fz (tyL (tyT (Row.cons tyS (Row.one tyI)))) second_11, .fz tyI form_13, .rg Rg27 Rg27 true 0 (t2L (t2M (Row2.cons (t2N tyS) (Row2.one (t2N tyI))))) handed_26, .fz (tyO (He.ga K "Table") ns_Table (Row.cons (tyD tyI) (Row.one tyI))) table_29, .no, .no]) 6 rfl (xp_ix 6 rfl (xp_name 6 rfl rfl (.inl rfl)) xe_int (fun _ _ => rfl)) (ra2_succ ra2_one) xe_int (xe_add (xe_pI (xp_ixM 6 rfl (xp_ix 6 rfl (xp_name 6 rfl rfl (.inl rfl)) xe_int (fun _ _ => rfl)) (ra2_succ ra2_one) xe_int (fun _ _ => rfl))) xe_int) id (fun Rg36 => (y_mutS (Γ := [.fz (tyZ K) y, .st, .fz (tyL (tyT (Row.cons tyS (Row.one tyI)))) pairs_3, .fz (tyL tyS) others_5, .fz (tyL (tyT (Row.cons tyS (Row.one tyI)))) second_11, .fz tyI form_13, .rg Rg27 Rg36 true 0 (t2L (t2M (Row2.cons (t2N tyS) (Row2.one (t2N tyI))))) handed_26, .fz (tyO (He.ga K "Table") ns_Table (Row.cons (tyD tyI) (Row.one tyI))) table_29, .no, .no]) 6 rfl (xp_ix 6 rfl (xp_name 6 rfl rfl (.inl rfl)) (xe_sub (xe_len T.l_len (xl_of (xe_var 2 rfl rfl (.inl rfl)))) xe_int) (fun _ _ => rfl)) ra2_zero xe_int xe_str id (fun Rg39 => (y_mutApp (Γ := [.fz (tyZ K) y, .st, .fz (tyL (tyT (Row.cons tyS (Row.one tyI)))) pairs_3, .fz (tyL tyS) others_5, .fz (tyL (tyT (Row.cons tyS (Row.one tyI)))) second_11, .fz tyI form_13, .rg Rg27 Rg39 true 0 (t2L (t2M (Row2.cons (t2N tyS) (Row2.one (t2N tyI))))) handed_26, .fz (tyO (He.ga K "Table") ns_Table (Row.cons (tyD tyI) (Row.one tyI))) table_29, .no, .no]) 6 false rfl (xp_name 6 rfl rfl (.inl rfl)) (xe_mix (xa_cons xe_str (xa_one xe_int))) (fun _ _ _ _ h => nomatch h) (fun h => nomatch h) id (fun Rg40 => (y_join (ΓJ := fun s14 : (((List (Str × (Int))) × Int)) => [.fz (tyZ K) y, .st, .fz (tyL (tyT (Row.cons tyS (Row.one tyI)))) pairs_3, .fz (tyL tyS) others_5, .fz (tyL (tyT (Row.cons tyS (Row.one tyI)))) second_11, .fz tyI form_13, .no, .fz (tyO (He.ga K "Table") ns_Table (Row.cons (tyD tyI) (Row.one tyI))) s14, .no, .no]) table_29 (Wk.cv (.same (.same (.same (.same (.same (.same (.no (.same (.same (.same .nil))))))))))) rfl id)))))))))))))) (fun j24 => by exact (y_if (Γ := [.fz (tyZ K) y, .st, .fz (tyL (tyT (Row.cons tyS (Row.one tyI)))) pairs_3, .fz (tyL tyS) others_5, .fz (tyL (tyT (Row.cons tyS (Row.one tyI)))) second_11, .fz tyI form_13, .no, .no, .no, .no]) (fun s41 : (((List (Str × (Int))) × Int)) => [.fz (tyZ K) y, .st, .fz (tyL (tyT (Row.cons tyS (Row.one tyI)))) pairs_3, .fz (tyL tyS) others_5, .fz (tyL (tyT (Row.cons tyS (Row.one tyI)))) second_11, .fz tyI form_13, .no, .fz (tyO (He.ga K "Table") ns_Table (Row.cons (tyD tyI) (Row.one tyI))) s41, .no, .no]) (xt_eq (xe_var 5 rfl rfl (.inl rfl)) xe_int) id (fun j42 => by exact (y_newRg (A2 := (t2L (t2N (tyT (Row.cons tyS (Row.one tyI)))))) (Γ := [.fz (tyZ K) y, .st, .fz (tyL (tyT (Row.cons tyS (Row.one tyI)))) pairs_3, .fz (tyL tyS) others_5, .fz (tyL (tyT (Row.cons tyS (Row.one tyI)))) second_11, .fz tyI form_13, .no, .no, .no, .no]) 6 sc_law_body.nd rfl (.inl rfl) (xr_f (xf_listL T.l_list (xl_of (xe_var 2 rfl rfl (.inl rfl))))) id (fun Rg44 handed_43 => (y_callRg (Γ := [.fz (tyZ K) y, .st, .fz (tyL (tyT (Row.cons tyS (Row.one tyI)))) pairs_3, .fz (tyL tyS) others_5, .fz (tyL (tyT (Row.cons tyS (Row.one tyI)))) second_11, .fz tyI form_13, .rg Rg44 Rg44 true 0 (t2L (t2N (tyT (Row.cons tyS (Row.one tyI))))) handed_43, .no, .no, .no]) 7 6 rfl (by decide) sc_law_body.nd rfl (.inl rfl) (xe_makeK0 (ok_Table___init___k0_pairs T) (hr.mono (by decide)) (xk_one (xe_var 6 rfl rfl (.inl rfl))) rfl) id (fun table_46 => (y_if1Rg (Γ := [.fz (tyZ K) y, .st, .fz (tyL (tyT (Row.cons tyS (Row.one tyI)))) pairs_3, .fz (tyL tyS) others_5, .fz (tyL (tyT (Row.cons tyS (Row.one tyI)))) second_11, .fz tyI form_13, .rg Rg44 Rg44 true 0 (t2L (t2N (tyT (Row.cons tyS (Row.one tyI))))) handed_43, .fz (tyO (He.ga K "Table") ns_Table (Row.cons (tyD tyI) (Row.one tyI))) table_46, .no, .no]) 6 rfl (xt_neD (hr.units) (xe_var 6 rfl rfl (.inl rfl)) (xe_var 2 rfl rfl (.inl rfl))) id (by exact (y_ret (Γ := [.fz (tyZ K) y, .st, .fz (tyL (tyT (Row.cons tyS (Row.one tyI)))) pairs_3, .fz (tyL tyS) others_5, .fz (tyL (tyT (Row.cons tyS (Row.one tyI)))) second_11, .fz tyI form_13, .rg Rg44 Rg44 true 0 (t2L (t2N (tyT (Row.cons tyS (Row.one tyI))))) handed_43, .fz (tyO (He.ga K "Table") ns_Table (Row.cons (tyD tyI) (Row.one tyI))) table_46, .no, .no]) xe_bl id)) (by exact (y_mutT (Γ := [.fz (tyZ K) y, .st, .fz (tyL (tyT (Row.cons tyS (Row.one tyI)))) pairs_3, .fz (tyL tyS) others_5, .fz (tyL (tyT (Row.cons tyS (Row.one tyI)))) second_11, .fz tyI form_13, .rg Rg44 Rg44 true 0 (t2L (t2N (tyT (Row.cons tyS (Row.one tyI))))) handed_43, .fz (tyO (He.ga K "Table") ns_Table (Row.cons (tyD tyI) (Row.one tyI))) table_46, .no, .no]) 6 rfl (xp_name 6 rfl rfl (.inl rfl)) (xe_callS 1 rfl rfl (.inr (.inl rfl)) (ok_law_draw T) (hr.mono (by decide)) (xa_one (xe_len T.l_len (xl_of (xe_var 2 rfl rfl (.inl rfl)))))) (xe_tup (xa_cons xe_str (xa_one xe_int))) id (fun Rg48 => (y_mutApp (Γ := [.fz (tyZ K) y, .st, .fz (tyL (tyT (Row.cons tyS (Row.one tyI)))) pairs_3, .fz (tyL tyS) others_5, .fz (tyL (tyT (Row.cons tyS (Row.one tyI)))) second_11, .fz tyI form_13, .rg Rg44 Rg48 true 0 (t2L (t2N (tyT (Row.cons tyS (Row.one tyI))))) handed_43, .fz (tyO (He.ga K "Table") ns_Table (Row.cons (tyD tyI) (Row.one tyI))) table_46, .no, .no]) 6 false rfl (xp_name 6 rfl rfl (.inl rfl)) (xe_tup (xa_cons xe_str (xa_one xe_int))) (fun _ _ _ _ h => nomatch h) (fun h => nomatch h) id (fun Rg49 => (y_join (ΓJ := fun s41 : (((List (Str × (Int))) × Int)) => [.fz (tyZ K) y, .st, .fz (tyL (tyT (Row.cons tyS (Row.one tyI)))) pairs_3, .fz (tyL tyS) others_5, .fz (tyL (tyT (Row.cons tyS (Row.one tyI)))) second_11, .fz tyI form_13, .no, .fz (tyO (He.ga K "Table") ns_Table (Row.cons (tyD tyI) (Row.one tyI))) s41, .no, .no]) table_46 (Wk.cv (.same (.same (.same (.same (.same (.same (.no (.same (.same (.same .nil))))))))))) rfl id)))))))))))) (fun j42 => by exact (y_set (Γ := [.fz (tyZ K) y, .st, .fz (tyL (tyT (Row.cons tyS (Row.one tyI)))) pairs_3, .fz (tyL tyS) others_5, .fz (tyL (tyT (Row.cons tyS (Row.one tyI)))) second_11, .fz tyI form_13, .no, .no, .no, .no]) 7 sc_law_body.nd rfl (.inl rfl) (xe_make (ok_Table___init___v2 T) (hr.mono (by decide)) (xa_one (xe_tupleL T.l_tuple (xl_of (xe_var 2 rfl rfl (.inl rfl)))))) id (fun table_51 => (y_join (ΓJ := fun s41 : (((List (Str × (Int))) × Int)) => [.fz (tyZ K) y, .st, .fz (tyL (tyT (Row.cons tyS (Row.one tyI)))) pairs_3, .fz (tyL tyS) others_5, .fz (tyL (tyT (Row.cons tyS (Row.one tyI)))) second_11, .fz tyI form_13, .no, .fz (tyO (He.ga K "Table") ns_Table (Row.cons (tyD tyI) (Row.one tyI))) s41, .no, .no]) table_51 (Cv.refl _) rfl id)))) (fun s41 => by exact (y_join (ΓJ := fun s14 : (((List (Str × (Int))) × Int)) => [.fz (tyZ K) y, .st, .fz (tyL (tyT (Row.cons tyS (Row.one tyI)))) pairs_3, .fz (tyL tyS) others_5, .fz (tyL (tyT (Row.cons tyS (Row.one tyI)))) second_11, .fz tyI form_13, .no, .fz (tyO (He.ga K "Table") ns_Table (Row.cons (tyD tyI) (Row.one tyI))) s14, .no, .no]) s41 (Cv.refl _) rfl id)))) (fun s14 => by exact (y_if1 (Γ := [.fz (tyZ K) y, .st, .fz (tyL (tyT (Row.cons tyS (Row.one tyI)))) pairs_3, .fz (tyL tyS) others_5, .fz (tyL (tyT (Row.cons tyS (Row.one tyI)))) second_11, .fz tyI form_13, .no, .fz (tyO (He.ga K "Table") ns_Table (Row.cons (tyD tyI) (Row.one tyI))) s14, .no, .no]) (xt_not (xt_val (xe_call (ok_law_table_is T) (hr.mono (by decide)) (xa_cons (xe_var 7 rfl rfl (.inl rfl)) (xa_cons (xe_var 2 rfl rfl (.inl rfl)) (xa_one (xe_var 3 rfl rfl (.inl rfl)))))))) id (by exact (y_ret (Γ := [.fz (tyZ K) y, .st, .fz (tyL (tyT (Row.cons tyS (Row.one tyI)))) pairs_3, .fz (tyL tyS) others_5, .fz (tyL (tyT (Row.cons tyS (Row.one tyI)))) second_11, .fz tyI form_13, .no, .fz (tyO (He.ga K "Table") ns_Table (Row.cons (tyD tyI) (Row.one tyI))) s14, .no, .no]) xe_bl id)) (by exact (y_set (Γ := [.fz (tyZ K) y, .st, .fz (tyL (tyT (Row.cons tyS (Row.one tyI)))) pairs_3, .fz (tyL tyS) others_5, .fz (tyL (tyT (Row.cons tyS (Row.one tyI)))) second_11, .fz tyI form_13, .no, .fz (tyO (He.ga K "Table") ns_Table (Row.cons (tyD tyI) (Row.one tyI))) s14, .no, .no]) 8 sc_law_body.nd rfl (.inl rfl) (xe_make (ok_Table___init__ T) (hr.mono (by decide)) (xa_one (xe_f (xf_c (xc_lcm (f := fun x16 => x16) (B := (tyT (Row.cons tyS (Row.one tyI)))) (ΓT := fun (x16 : Str × Int) => [.fz (tyZ K) y, .st, .fz (tyL (tyT (Row.cons tyS (Row.one tyI)))) pairs_3, .fz (tyL tyS) others_5, .fz (tyL (tyT (Row.cons tyS (Row.one tyI)))) second_11, .fz tyI form_13, .no, .fz (tyO (He.ga K "Table") ns_Table (Row.cons (tyD tyI) (Row.one tyI))) s14, .no, .fz (tyT (Row.cons tyS (Row.one tyI))) x16]) [("pair", 9)] rfl sc_law_body.nd (xi_list (xe_var 4 rfl rfl (.inl rfl))) (by show blkC ["script", "state", "pairs", "others", "second", "form", "handed", "table", "twin", "pair"] (defScope s_law_body) _ [("pair", 9)] = true; decide +kernel) (fun _ _ _ _ _ => (xg_name 9 sc_law_body.nd rfl (.inl rfl))) (by decide) (fun _ _ _ _ _ x16 => (xe_var 9 rfl rfl (.inl rfl))) rfl))))) id (fun twin_18 => (y_if1 (Γ := [.fz (tyZ K) y, .st, .fz (tyL (tyT (Row.cons tyS (Row.one tyI)))) pairs_3, .fz (tyL tyS) others_5, .fz (tyL (tyT (Row.cons tyS (Row.one tyI)))) second_11, .fz tyI form_13, .no, .fz (tyO (He.ga K "Table") ns_Table (Row.cons (tyD tyI) (Row.one tyI))) s14, .fz (tyO (He.ga K "Table") ns_Table (Row.cons (tyD tyI) (Row.one tyI))) twin_18, .no]) (xt_not (xt_val (xe_call (ok_law_table_is T) (hr.mono (by decide)) (xa_cons (xe_var 8 rfl rfl (.inl rfl)) (xa_cons (xe_var 4 rfl rfl (.inl rfl)) (xa_one (xe_var 3 rfl rfl (.inl rfl)))))))) id (by exact (y_ret (Γ := [.fz (tyZ K) y, .st, .fz (tyL (tyT (Row.cons tyS (Row.one tyI)))) pairs_3, .fz (tyL tyS) others_5, .fz (tyL (tyT (Row.cons tyS (Row.one tyI)))) second_11, .fz tyI form_13, .no, .fz (tyO (He.ga K "Table") ns_Table (Row.cons (tyD tyI) (Row.one tyI))) s14, .fz (tyO (He.ga K "Table") ns_Table (Row.cons (tyD tyI) (Row.one tyI))) twin_18, .no]) xe_bl id)) (by exact (y_ret (Γ := [.fz (tyZ K) y, .st, .fz (tyL (tyT (Row.cons tyS (Row.one tyI)))) pairs_3, .fz (tyL tyS) others_5, .fz (tyL (tyT (Row.cons tyS (Row.one tyI)))) second_11, .fz tyI form_13, .no, .fz (tyO (He.ga K "Table") ns_Table (Row.cons (tyD tyI) (Row.one tyI))) s14, .fz (tyO (He.ga K "Table") ns_Table (Row.cons (tyD tyI) (Row.one tyI))) twin_18, .no]) (xe_and (xe_call (ok_law_table_is T) (hr.mono (by decide)) (xa_cons (xe_var 7 rfl rfl (.inl rfl)) (xa_cons (xe_var 2 rfl rfl (.inl rfl)) (xa_one (xe_var 3 rfl rfl (.inl rfl)))))) (xe_one (xe_call (ok_law_table_is T) (hr.mono (by decide)) (xa_cons (xe_var 8 rfl rfl (.inl rfl)) (xa_cons (xe_var 4 rfl rfl (.inl rfl)) (xa_one (xe_var 3 rfl rfl (.inl rfl)))))))) id))))))))))))))))) (fun _ _ h => h) (fun _ _ h => h) (fun _ _ h => h) (fun _ _ _ h => h))))
theorem ok_law_body (T : Txt K mg) : Cle P w K mg base "_law_body" 6 (spP (Row.one (tyZ K)) tyB (w_law_body)) :=
  let ⟨_, F⟩ := T.f_law_body
  ⟨_, _, _, fo_law_body T F, T.g_law_body, F.kp, F.bindsN (fun _ _ _ _ _ _ us hl => match us, hl with | [_], _ => rfl)⟩
/-! law -/
theorem sc_law : FnScope ["script"] ["script"] (defScope s_law) := ⟨rfl, rfl, rfl, by decide +kernel, rfl, by decide +kernel, by decide +kernel⟩
def w_law (y : (List Int)) (k : Bool → Prop) : Prop :=
  w_law_body y (fun r1 => k r1)
theorem fo_law {fd : FuncData} (T : Txt K mg) (F : FunD K "law" "law" (defArgs s_law) (defBody s_law) (defScope s_law) [] [] (He.fAd K ("law", none)) fd) : FnOk P w K mg base CX0 7 (He.fAd K ("law", none)) fd ["script"] (spP (Row.one (tyZ K)) tyB (w_law)) :=
  fn_P (Γ0 := fun y => [.fz (tyZ K) y]) (kn := fun _ => False) F sc_law rfl (Nat.le_of_ble_eq_true rfl) rsl_one (fun _ => rfl) (fun _ _ h => h.elim) (fun cdv A outer s H E hr y k => (xb_tryThru (y_ret (Γ := [.fz (tyZ K) y]) (xe_call (ok_law_body T) (hr.mono (by decide)) (xa_one (xe_var 0 rfl rfl (.inl rfl)))) id) rfl))
theorem ok_law (T : Txt K mg) : Cle P w K mg base "law" 7 (spP (Row.one (tyZ K)) tyB (w_law)) :=
  let ⟨_, F⟩ := T.f_law
  ⟨_, _, _, fo_law T F, T.g_law, F.kp, F.bindsN (fun _ _ _ _ _ _ us hl => match us, hl with | [_], _ => rfl)⟩
end
/-! ### what the law's own parts draw -/
theorem draw_by {y : Int} {k : Int → Prop} (hl : y.natAbs < 2 ^ 200) (hk : ∀ r, 0 ≤ r → r < max y 1 → k r) : w_law_draw y k := ⟨Nat.lt_of_le_of_lt (lg_le hl) (by decide), hk⟩
theorem atI_lt {α : Type} {xs : List α} {i : Int} (h0 : 0 ≤ i) (h1 : i < (xs.length : Int)) : ∃ y, xs[i.toNat]? = some y ∧ atI xs i = some y := by
  have hl : i.toNat < xs.length := by omega
  refine ⟨xs[i.toNat], by simp [hl], ?_⟩
  have e : i = ((i.toNat : Nat) : Int) := by omega
  have q : atI xs ((i.toNat : Nat) : Int) = some xs[i.toNat] := atI_nat (by simp [hl])
  rw [← e] at q
  exact q
theorem sl_eq : sizeLine = 16777216 := by decide
theorem strlen_app (a b : Str) : (a ++ b).length = a.length + b.length := by
  show (a.cps ++ b.cps).size = a.cps.size + b.cps.size
  exact Array.size_append
theorem cutS_len (s : Str) (lo hi : Option Int) : (cutS s lo hi).length ≤ s.length := by
  show (cutS s lo hi).cps.size ≤ s.cps.size
  unfold cutS
  simp
  try omega
/-- a list made of a walk, without tests -/
theorem WLc_by {α β : Type} {xs : List α} {we : α → (β → Prop) → Prop} {wk : List β → Prop} (hl : xs.length < sizeLine) (I : Nat → List β → Prop) (h0 : I 0 []) (h1 : ∀ i x acc, xs[i]? = some x → I i acc → we x fun y => I (i + 1) (acc ++ [y])) (h2 : ∀ acc, I xs.length acc → wk acc) : WLc xs (fun _ kk => kk true) we wk :=
  ⟨hl, I, h0, fun i x acc hx hI => (if_pos rfl).mpr (h1 i x acc hx hI), h2⟩

theorem p_law_wide {k : Int → Prop} (h : ∀ r, 0 ≤ r → r < 10 ^ 40 → k r) : w_law_wide () k := by
  unfold w_law_wide
  simp only [Bnd]
  refine ⟨by decide, WFor_by (fun i s => 0 ≤ s ∧ s < 10 ^ (9 * i)) (by decide) (fun i x s hx ⟨h0, h1⟩ => ?_) (fun s ⟨h0, _⟩ => ?_)⟩
  · have hi := (rng_at hx).1
    have hi : i < 5 := hi
    have hB : ∀ i, i < 5 → (10 : Int) ^ (9 * i) ≤ 10 ^ 36 := by decide
    have hb := hB i hi
    refine ⟨cmul_of 200 40 (by omega) (by decide) (by decide), draw_by (by decide) fun r r0 r1 => ?_⟩
    have e : (10 : Int) ^ (9 * (i + 1)) = 10 ^ (9 * i) * 10 ^ 9 := by rw [show 9 * (i + 1) = 9 * i + 9 by omega, Int.pow_add]
    show 0 ≤ s * 1000000000 + r ∧ s * 1000000000 + r < 10 ^ (9 * (i + 1))
    rw [e]
    omega
  · refine draw_by (by decide) fun r r0 r1 => ?_
    refine ⟨by omega, WFor_by (fun i s => s = 10 ^ i) rfl (fun i x s hx hs => ?_) (fun s' hs => ?_)⟩
    · have hi := (rng_at hx).1
      have hB : ∀ i, i < 41 → ((10 : Int) ^ i).natAbs < 2 ^ 200 := by decide
      refine ⟨cmul_of 200 40 (by rw [hs]; exact hB i (by omega)) (by decide) (by decide), ?_⟩
      show s * 10 = 10 ^ (i + 1)
      rw [hs, Int.pow_succ]
    · rw [rng_length] at hs
      have hB : ∀ i, i < 41 → 0 < (10 : Int) ^ i ∧ (10 : Int) ^ i ≤ 10 ^ 40 := by decide
      have hb := hB r.toNat (by omega)
      rw [← hs] at hb
      refine ⟨hb.1, h _ (Int.emod_nonneg _ (by omega)) (Int.lt_of_lt_of_le (Int.emod_lt_of_pos _ hb.1) hb.2)⟩

theorem p_law_text {y : Int} {k : Str → Prop} (h0 : 0 ≤ y) (h1 : y ≤ 1000) (h : ∀ t : Str, (t.length : Int) ≤ y → k t) : w_law_text y k := by
  unfold w_law_text
  simp only [Bnd]
  refine draw_by (by decide) fun r1 a0 a1 => draw_by (by decide) fun r3 b0 b1 => ?_
  refine Jn_by (fun s6 : Str => 0 < s6.length ∧ s6.length ≤ 100) (fun s6 hs6 => ?_) (fun j hj => ?_)
  · refine Jn_by (fun s7 : Str × Int => (0 < s7.1.length ∧ s7.1.length ≤ 100) ∧ 0 ≤ s7.2 ∧ s7.2 ≤ 2000) (fun s7 ⟨⟨c0, c1⟩, d0, d1⟩ => ?_) (fun j hj => ?_)
    · refine ⟨by omega, WFor_by (fun i s => s.length = i) rfl (fun i x s hx hs => ?_) (fun s hs => ?_)⟩
      · have hi := (rng_at hx).1
        refine ⟨by rw [sl_eq]; omega, draw_by (by omega) fun r r0 r1 => ⟨by rw [sl_eq]; omega, ?_⟩⟩
        have hl : s7.1.cps.toList.length = s7.1.length := by simp [Str.length]
        obtain ⟨c, _, hc⟩ := atI_lt (xs := s7.1.cps.toList) r0 (by rw [hl]; omega)
        refine ⟨c, hc, ?_, ?_⟩
        · show s.length + 1 ≤ sizeLine
          rw [sl_eq]; omega
        · show (s ++ (⟨#[c]⟩ : Str)).length = i + 1
          rw [strlen_app, hs]
          rfl
      · rw [rng_length] at hs
        exact h s (by omega)
    · split
      · exact draw_by (by omega) fun r r0 r1 => hj _ ⟨(by decide : 0 < (" !\"#$&'()*+,-./0123456789:;<=>?@ABCDEFGHIJKLMNOPQRSTUVWXYZ[\\]^_`abcdefghijklmnopqrstuvwxyz{|}~" : Str).length ∧ (" !\"#$&'()*+,-./0123456789:;<=>?@ABCDEFGHIJKLMNOPQRSTUVWXYZ[\\]^_`abcdefghijklmnopqrstuvwxyz{|}~" : Str).length ≤ 100), r0, by show r ≤ 2000; omega⟩
      · exact hj _ ⟨hs6, b0, by omega⟩
  · split
    · exact hj _ (by decide)
    · exact hj _ (by decide)

theorem p_law_texts {y : Int × Int} {k : List Str → Prop} (h0 : 1 ≤ y.1) (h1 : y.1 ≤ 1000) (g0 : 1 ≤ y.2) (g1 : y.2 ≤ 1000) (h : ∀ ts : List Str, ts ≠ [] → (ts.length : Int) ≤ y.1 → ts.Nodup → (∀ t ∈ ts, (t.length : Int) ≤ 3000) → k ts) : w_law_texts y k := by
  unfold w_law_texts
  simp only [Bnd]
  refine draw_by (by decide) fun r1 a0 a1 => p_law_text (by omega) (by omega) fun base hb => ⟨by rw [sl_eq]; omega, draw_by (by omega) fun r5 b0 b1 => ?_⟩
  refine ⟨by omega, WFor_by (fun i s => (1 ≤ i → s ≠ []) ∧ s.length ≤ i ∧ s.Nodup ∧ ∀ t ∈ s, (t.length : Int) ≤ 3000) ⟨fun h => absurd h (by decide), Nat.le_refl _, .nil, (fun t h => nomatch h)⟩ (fun i x s hx ⟨i0, i1, i2, i3⟩ => ?_) (fun s ⟨i0, i1, i2, i3⟩ => ?_)⟩
  · have hi := (rng_at hx).1
    refine Jn_by (fun t : Str => (t.length : Int) ≤ 3000) (fun t ht => ?_) (fun j hj => ?_)
    · refine Jn_by (fun s' => s' ≠ [] ∧ s'.length ≤ i + 1 ∧ s'.Nodup ∧ ∀ t ∈ s', (t.length : Int) ≤ 3000) (fun s' ⟨e0, e1, e2, e3⟩ => ⟨fun _ => e0, e1, e2, e3⟩) (fun j hj => ?_)
      by_cases hm : t ∈ s
      · rw [if_neg (by rw [decide_eq_true hm]; decide)]
        exact hj s ⟨(fun e => by rw [e] at hm; cases hm), Nat.le_succ_of_le i1, i2, i3⟩
      · rw [if_pos (by rw [decide_eq_false hm]; rfl)]
        refine ⟨by rw [sl_eq]; omega, hj _ ⟨by simp, by rw [List.length_append]; show s.length + 1 ≤ _; omega, ?_, fun u hu => ?_⟩⟩
        · rw [List.nodup_append]
          exact ⟨i2, by simp, fun a ha b hb e => hm (by rw [List.mem_singleton] at hb; rw [← hb, ← e]; exact ha)⟩
        · rcases List.mem_append.mp hu with hu | hu
          · exact i3 u hu
          · rw [List.mem_singleton] at hu; rw [hu]; exact ht
    · split
      · have c1 := cutS_len base none (some r5)
        have c2 := cutS_len base (some (r5 + 1)) none
        refine ⟨by rw [sl_eq]; omega, draw_by (by decide) fun r r0 r1 => ⟨by decide, ?_⟩⟩
        obtain ⟨c, _, hc⟩ := atI_lt (xs := (" !\"#$&'()*+,-./0123456789:;<=>?@ABCDEFGHIJKLMNOPQRSTUVWXYZ[\\]^_`abcdefghijklmnopqrstuvwxyz{|}~" : Str).cps.toList) r0 (Int.lt_of_lt_of_le r1 (by decide))
        have l1 : (cutS base none (some r5) ++ (⟨#[c]⟩ : Str)).length = (cutS base none (some r5)).length + 1 := by rw [strlen_app]; rfl
        refine ⟨c, hc, ?_, by rw [sl_eq]; omega, ?_, ?_⟩
        · show (cutS base none (some r5)).length + 1 ≤ sizeLine
          rw [sl_eq]; omega
        · rw [l1, sl_eq]; omega
        · refine hj _ ?_
          rw [strlen_app, l1]
          omega
      · exact p_law_text (by omega) (by omega) fun t ht => hj t (by omega)
  · rw [rng_length] at i0 i1
    exact h s (i0 (by omega)) (by omega) i2 i3

theorem p_law_weight {y : Int} {k : Int → Prop} (h : ∀ r, 1 ≤ r → r ≤ 10 ^ 40 → k r) : w_law_weight y k := by
  unfold w_law_weight
  split
  · exact draw_by (by decide) fun r r0 r1 => h _ (by omega) (by omega)
  · split
    · exact draw_by (by decide) fun r r0 r1 => h _ (by omega) (by omega)
    · split
      · exact draw_by (by decide) fun r r0 r1 => ⟨cmul_of 8 8 (by decide) (by omega) (by decide), h _ (by omega) (by omega)⟩
      · exact p_law_wide fun r r0 r1 => h _ (by omega) (by omega)

theorem gcd_step (m n : Nat) : Nat.gcd n (m % n) = Nat.gcd m n := by
  rw [Nat.gcd_comm m n, Nat.gcd_rec n m, Nat.gcd_comm]
theorem p_gcd {a b : Nat} {k : Int → Prop} (h : k (Nat.gcd a b : Int)) : w_greatest_divisor ((a : Int), (b : Int)) k := by
  unfold w_greatest_divisor
  refine Jn_by (fun s : Int × Int => s.1 = (Nat.gcd a b : Int)) (fun s hs => by rw [hs]; exact h) (fun j hj => ?_)
  refine ⟨fun s => ∃ m n : Nat, s = ((m : Int), (n : Int)) ∧ Nat.gcd m n = Nat.gcd a b, fun s => s.2.toNat, ⟨a, b, rfl, rfl⟩, ?_⟩
  rintro s ⟨m, n, rfl, hg⟩
  by_cases hn : (0 : Int) < (n : Int)
  · show if decide ((0 : Int) < (n : Int)) = true then _ else _
    rw [if_pos (decide_eq_true hn)]
    refine ⟨hn, ⟨n, m % n, ?_, by rw [gcd_step, hg]⟩, ?_⟩
    · show ((n : Int), (m : Int) % (n : Int)) = _
      rw [Int.natCast_emod]
    · show ((m : Int) % (n : Int)).toNat < ((n : Int)).toNat
      have := Int.emod_lt_of_pos (m : Int) hn
      have := Int.emod_nonneg (m : Int) (show (n : Int) ≠ 0 by omega)
      omega
  · show if decide ((0 : Int) < (n : Int)) = true then _ else _
    rw [if_neg (by rw [decide_eq_false hn]; decide)]
    refine hj _ ?_
    have : n = 0 := by omega
    subst this
    rw [Nat.gcd_zero_right] at hg
    show (m : Int) = _
    rw [hg]
theorem log2_mono {a b : Nat} (h : a ≤ b) : a.log2 ≤ b.log2 := by
  by_cases h0 : a = 0
  · subst h0; simp
  · exact (Nat.le_log2 (by omega)).mpr (Nat.le_trans (Nat.log2_self_le h0) h)

/-- a share in its least terms -/
def shG (o u : Int) : Int := (Nat.gcd o.natAbs u.natAbs : Int)
def shr (o u : Int) : Int × Int := (o / shG o u, u / shG o u)
theorem shG_pos {o u : Int} (hu : 0 < u) : 0 < shG o u := by
  unfold shG
  have : 0 < Nat.gcd o.natAbs u.natAbs := Nat.gcd_pos_of_pos_right _ (by omega)
  omega
theorem p_share {o u : Int} {k : Int × Int → Prop} (hu : 0 < u) (hl : u.natAbs.log2 < 9000) (h : k (shr o u)) : w_Share___init__ (o, u) k := by
  unfold w_Share___init__
  simp only [Bnd]
  rw [if_neg (by show ¬ (decide (u = 0) = true); rw [decide_eq_false (by omega)]; decide)]
  refine p_gcd ?_
  have hg := shG_pos (o := o) hu
  have hle : (shG o u).natAbs.log2 < 9000 := Nat.lt_of_le_of_lt (log2_mono (by
    unfold shG
    rw [Int.natAbs_natCast]
    exact Nat.gcd_le_right _ (by omega))) hl
  refine Jn_by (fun s : Int => s = shG o u) (fun s hs => ?_) (fun j hj => ?_)
  · subst hs
    exact ⟨⟨hg, hle⟩, ⟨hg, hle⟩, h⟩
  · rw [if_neg (by show ¬ (decide (u < 0) = true); rw [decide_eq_false (by omega)]; decide)]
    exact hj _ rfl

theorem bits_lt {x : Int} (h : x.natAbs.log2 < 9000) : (Builtin.Int.intBits x : Nat) ≤ 9000 := by
  unfold Builtin.Int.intBits
  split <;> omega
theorem lt_bits (x : Int) : x.natAbs < 2 ^ (Builtin.Int.intBits x) := by
  unfold Builtin.Int.intBits
  split
  · rename_i h
    have : x = 0 := by simpa using h
    subst this; decide
  · exact Nat.lt_log2_self
theorem pow_half {p q i B : Nat} (h : p * 2 ^ i < 2 ^ B) (hq : 2 * q ≤ p) : q * 2 ^ (i + 1) < 2 ^ B := by
  rw [Nat.pow_succ]
  calc q * (2 ^ i * 2) = (2 * q) * 2 ^ i := by rw [Nat.mul_comm (2 ^ i) 2, ← Nat.mul_assoc, Nat.mul_comm q 2]
    _ ≤ p * 2 ^ i := Nat.mul_le_mul_right _ hq
    _ < 2 ^ B := h
theorem mod_half {m n : Nat} (h0 : 0 < n) (h : n < m) : 2 * (n * (m % n)) ≤ m * n := by
  have h1 := Nat.mod_lt m h0
  have h2 := Nat.div_add_mod m n
  have h3 : 1 ≤ m / n := (Nat.one_le_div_iff h0).mpr (by omega)
  have h4 : n * 1 ≤ n * (m / n) := Nat.mul_le_mul_left _ h3
  have h5 : 2 * (m % n) ≤ m := by omega
  calc 2 * (n * (m % n)) = n * (2 * (m % n)) := by rw [← Nat.mul_assoc, Nat.mul_comm 2 n, Nat.mul_assoc]
    _ ≤ n * m := Nat.mul_le_mul_left _ h5
    _ = m * n := Nat.mul_comm _ _
theorem p_law_gcd {a b : Nat} {k : Int → Prop} (ha : a.log2 < 9000) (hb : b.log2 < 9000) (h : k (Nat.gcd a b : Int)) : w_law_gcd ((a : Int), (b : Int)) k := by
  unfold w_law_gcd
  have la : (Builtin.Int.intBits (a : Int) : Nat) ≤ 9000 := bits_lt (by rw [Int.natAbs_natCast]; exact ha)
  have lb : (Builtin.Int.intBits (b : Int) : Nat) ≤ 9000 := bits_lt (by rw [Int.natAbs_natCast]; exact hb)
  have ua : a < 2 ^ (Builtin.Int.intBits (a : Int)) := by have := lt_bits (a : Int); rwa [Int.natAbs_natCast] at this
  have ub : b < 2 ^ (Builtin.Int.intBits (b : Int)) := by have := lt_bits (b : Int); rwa [Int.natAbs_natCast] at this
  simp only
  generalize Builtin.Int.intBits (a : Int) = A at *
  generalize Builtin.Int.intBits (b : Int) = B at *
  refine ⟨cmul_of 2 20 (by decide) (by omega) (by decide), by omega, WFor_by (fun i s => ∃ m n : Nat, s = ((m : Int), (n : Int)) ∧ Nat.gcd m n = Nat.gcd a b ∧ (1 ≤ i → n < m) ∧ m * n * 2 ^ (i - 1) < 2 ^ (A + B)) ?_ (fun i x s hx hI => ?_) (fun s hI => ?_)⟩
  · refine ⟨a, b, rfl, rfl, fun h => absurd h (by decide), ?_⟩
    rw [show (0 - 1) = 0 from rfl, Nat.pow_zero, Nat.mul_one, Nat.pow_add]
    exact Nat.mul_lt_mul'' ua ub
  · obtain ⟨m, n, rfl, hg, hi, hp⟩ := hI
    by_cases hn : n = 0
    · subst hn
      show if decide (((0 : Nat) : Int) = 0) = true then k (m : Int) else _
      rw [if_pos (by decide)]
      rw [Nat.gcd_zero_right] at hg
      rw [hg]; exact h
    · show if decide ((n : Int) = 0) = true then k (m : Int) else _
      rw [if_neg (by rw [decide_eq_false (by omega)]; decide)]
      refine ⟨by show (0 : Int) < (n : Int); omega, n, m % n, ?_, by rw [gcd_step, hg], fun _ => Nat.mod_lt _ (by omega), ?_⟩
      · show ((n : Int), (m : Int) % (n : Int)) = _
        rw [Int.natCast_emod]
      · cases i with
        | zero =>
          rw [show (0 - 1) = 0 from rfl, Nat.pow_zero, Nat.mul_one] at hp
          rw [show (0 + 1 - 1) = 0 from rfl, Nat.pow_zero, Nat.mul_one]
          refine Nat.lt_of_le_of_lt ?_ hp
          rw [Nat.mul_comm m n]
          exact Nat.mul_le_mul_left _ (Nat.mod_le _ _)
        | succ i =>
          rw [show i + 1 - 1 = i by omega] at hp
          rw [show i + 1 + 1 - 1 = i + 1 by omega]
          exact pow_half hp (mod_half (by omega) (hi (by omega)))
  · obtain ⟨m, n, rfl, hg, hi, hp⟩ := hI
    rw [rng_length] at hi hp
    have e : (((2 : Int) * ((A : Int) + (B : Int))) + (4 : Int)).toNat = 2 * (A + B) + 4 := by omega
    rw [e] at hi hp
    have hnm := hi (by omega)
    have h0 : n = 0 := by
      apply Classical.byContradiction
      intro hn
      have h1 : 1 ≤ m * n := Nat.mul_pos (by omega) (by omega)
      have h2 : 2 ^ (A + B) ≤ 2 ^ (2 * (A + B) + 4 - 1) := Nat.pow_le_pow_right (by decide) (by omega)
      have h3 := Nat.mul_le_mul h1 h2
      omega
    subst h0
    rw [Nat.gcd_zero_right] at hg
    show k (m : Int)
    rw [hg]; exact h

theorem shr_over {o u : Int} : (shr o u).1 * shG o u = o := Int.ediv_mul_cancel (by unfold shG; exact Int.ofNat_dvd_left.mpr (Nat.gcd_dvd_left _ _))
theorem shr_under {o u : Int} : (shr o u).2 * shG o u = u := Int.ediv_mul_cancel (by unfold shG; exact Int.ofNat_dvd_left.mpr (Nat.gcd_dvd_right _ _))
theorem natAbs_div_le (a b : Int) : (a / b).natAbs ≤ a.natAbs := by
  exact Int.natAbs_ediv_le_natAbs a b
theorem p_law_is {o u : Int} {k : Bool → Prop} (hu : 0 < u) (ho : o.natAbs.log2 < 9000) (hl : u.natAbs.log2 < 9000) (h : k true) : w_law_is (shr o u, o, u) k := by
  unfold w_law_is w_law_integer
  simp only [Bnd]
  have e : u = ((u.natAbs : Nat) : Int) := by omega
  have q := p_law_gcd (a := o.natAbs) (b := u.natAbs) (k := fun common_6 => CMulW (shr o u).1 common_6 ∧ (if (decide (((shr o u).1 * common_6) = o)) = true then (CMulW (shr o u).2 common_6 ∧ (k (decide (((shr o u).2 * common_6) = u)))) else k false)) ho hl ?_
  · rw [← e] at q
    exact q
  · have hG : (shG o u).natAbs.log2 < 9000 := Nat.lt_of_le_of_lt (log2_mono (by
      unfold shG
      rw [Int.natAbs_natCast]
      exact Nat.gcd_le_right _ (by omega))) hl
    show CMulW (shr o u).1 (shG o u) ∧ (if (decide (((shr o u).1 * (shG o u)) = o)) = true then (CMulW (shr o u).2 (shG o u) ∧ (k (decide (((shr o u).2 * (shG o u)) = u)))) else k false)
    have l1 : (shr o u).1.natAbs.log2 < 9000 := Nat.lt_of_le_of_lt (log2_mono (natAbs_div_le _ _)) ho
    have l2 : (shr o u).2.natAbs.log2 < 9000 := Nat.lt_of_le_of_lt (log2_mono (natAbs_div_le _ _)) hl
    refine ⟨by show _ + _ < 1000000; omega, ?_⟩
    rw [if_pos (by rw [shr_over]; simp), shr_under]
    exact ⟨by show _ + _ < 1000000; omega, by simpa using h⟩

theorem look_none {α : Type} {d : List (Str × α)} {t : Str} (h : t ∉ d.map (·.1)) : look d t = none := by
  unfold look
  rw [List.find?_eq_none.mpr fun kv hkv e => h (List.mem_map.mpr ⟨kv, hkv, of_decide_eq_true e⟩)]
  rfl
theorem put_new {α : Type} {d : List (Str × α)} {t : Str} {v : α} (h : t ∉ d.map (·.1)) : put d t v = d ++ [(t, v)] := by
  unfold put
  rw [if_neg]
  rw [List.any_eq_true]
  rintro ⟨kv, hkv, e⟩
  exact h (List.mem_map.mpr ⟨kv, hkv, of_decide_eq_true e⟩)
theorem nodup_at {α : Type} {xs : List α} {i : Nat} {x : α} (h : xs.Nodup) (hx : xs[i]? = some x) : x ∉ xs.take i := by
  intro hm
  obtain ⟨j, hj⟩ := List.mem_iff_getElem?.mp hm
  have hlt : j < i := by
    have := (List.getElem?_eq_some_iff.mp hj).1
    rw [List.length_take] at this
    omega
  rw [List.getElem?_take_of_lt hlt] at hj
  obtain ⟨h1, e1⟩ := List.getElem?_eq_some_iff.mp hj
  obtain ⟨h2, e2⟩ := List.getElem?_eq_some_iff.mp hx
  have := (List.getElem_inj (h₀ := h1) (h₁ := h2) h).mp (e1.trans e2.symm)
  omega
/-- a table of distinct texts -/
theorem p_table {ps : List (Str × Int)} {k : List (Str × Int) × Int → Prop} (hl : ps.length ≤ 1000000) (hn : (ps.map (·.1)).Nodup) (hw : ∀ p ∈ ps, 1 ≤ p.2) (h : k (ps, (ps.map (·.2)).sum)) : w_Table___init__ ps k := by
  unfold w_Table___init__ w_is_integer
  simp only [Bnd]
  refine WFor_by (fun i s => s = ps.take i) rfl (fun i x s hx hs => ?_) (fun s hs => ?_)
  · obtain ⟨p, hp, e⟩ := enumA_at hx
    subst e
    subst hs
    have hi : i < ps.length := (List.getElem?_eq_some_iff.mp hp).1
    have hm : p.1 ∉ (ps.take i).map (·.1) := by
      rw [List.map_take]
      exact nodup_at hn (by rw [List.getElem?_map, hp]; rfl)
    have h1 := hw p (List.mem_of_getElem? hp)
    show if ((!(true && !false)) || (decide (p.2 < 1) || (look (ps.take i) p.1).isSome)) = true then _ else _
    rw [look_none hm, decide_eq_false (by omega), if_neg (by decide)]
    refine ⟨by rw [List.length_take, sl_eq]; omega, ?_⟩
    show put (ps.take i) p.1 p.2 = ps.take (i + 1)
    rw [put_new hm, List.take_add_one, hp]
    rfl
  · rw [enumA_length, List.take_of_length_le (Nat.le_refl _)] at hs
    subst hs
    exact h
theorem mem_sum_pos : ∀ {ps : List (Str × Int)}, ps ≠ [] → (∀ p ∈ ps, 1 ≤ p.2) → 1 ≤ (ps.map (·.2)).sum
  | [], h, _ => absurd rfl h
  | p :: r, _, h => by
    rw [List.map_cons, List.sum_cons]
    have hp := h p List.mem_cons_self
    cases r with
    | nil => simp; omega
    | cons q t =>
      have := mem_sum_pos (ps := q :: t) (by simp) fun x hx => h x (List.mem_cons_of_mem _ hx)
      omega
theorem mem_sum_le {B : Int} : ∀ {ps : List (Str × Int)}, (∀ p ∈ ps, p.2 ≤ B) → (ps.map (·.2)).sum ≤ B * ps.length
  | [], _ => by simp
  | p :: r, h => by
    rw [List.map_cons, List.sum_cons, List.length_cons]
    have hp := h p List.mem_cons_self
    have := mem_sum_le (ps := r) fun x hx => h x (List.mem_cons_of_mem _ hx)
    rw [show ((r.length + 1 : Nat) : Int) = (r.length : Int) + 1 by omega, Int.mul_add, Int.mul_one]
    omega
theorem look_mem {α : Type} {d : List (Str × α)} {t : Str} {v : α} (h : look d t = some v) : (t, v) ∈ d := by
  unfold look at h
  rw [Option.map_eq_some_iff] at h
  obtain ⟨kv, h1, h2⟩ := h
  have h3 : kv.1 = t := of_decide_eq_true (List.find?_some (p := fun kv : Str × α => decide (kv.1 = t)) h1)
  have h4 := List.mem_of_find?_eq_some h1
  rw [← h2, ← h3]
  exact h4
/-- numbers of so many digits are no burden -/
theorem log_of {n : Int} (h0 : 0 ≤ n) (h : n < 2 ^ 200) : n.natAbs.log2 < 9000 := Nat.lt_of_le_of_lt (lg_le (k := 200) (by omega)) (by decide)
/-- pairs as the laws draw them -/
def GoodP (ps : List (Str × Int)) : Prop := ps ≠ [] ∧ ps.length ≤ 24 ∧ (ps.map (·.1)).Nodup ∧ (∀ p ∈ ps, 1 ≤ p.2 ∧ p.2 ≤ 10 ^ 40) ∧ ∀ p ∈ ps, (p.1.length : Int) ≤ 3000
theorem GoodP.tab {ps : List (Str × Int)} {k : List (Str × Int) × Int → Prop} (g : GoodP ps) (h : k (ps, (ps.map (·.2)).sum)) : w_Table___init__ ps k := p_table (by have := g.2.1; omega) g.2.2.1 (fun p hp => (g.2.2.2.1 p hp).1) h
theorem GoodP.pos {ps : List (Str × Int)} (g : GoodP ps) : 1 ≤ (ps.map (·.2)).sum := mem_sum_pos g.1 fun p hp => (g.2.2.2.1 p hp).1
theorem GoodP.lt {ps : List (Str × Int)} (g : GoodP ps) : (ps.map (·.2)).sum < 2 ^ 200 := by
  have h1 := mem_sum_le (B := 10 ^ 40) fun p hp => (g.2.2.2.1 p hp).2
  have h2 : (10 : Int) ^ 40 * ps.length ≤ 10 ^ 40 * 24 := Int.mul_le_mul_of_nonneg_left (by have := g.2.1; omega) (by decide)
  have h3 : (10 : Int) ^ 40 * 24 < 2 ^ 200 := by decide
  omega
theorem GoodP.of {ps : List (Str × Int)} (g : GoodP ps) (t : Str) : 0 ≤ (look ps t).getD 0 ∧ (look ps t).getD 0 ≤ 10 ^ 40 := by
  cases e : look ps t with
  | none => exact ⟨by decide, by decide⟩
  | some v =>
    have := g.2.2.2.1 _ (look_mem e)
    exact ⟨by show 0 ≤ v; have := this.1; omega, this.2⟩

theorem p_law_pairs {y : Int} {k : List (Str × Int) → Prop} (h1 : 1 ≤ y) (h2 : y ≤ 24) (h : ∀ ps, GoodP ps → (ps.length : Int) ≤ max y 2 → k ps) : w_law_pairs y k := by
  unfold w_law_pairs
  simp only [Bnd]
  refine draw_by (by omega) fun r1 a0 a1 => ?_
  refine Jn_by (fun s : Int => 1 ≤ s ∧ s ≤ max y 2) (fun s ⟨s0, s1⟩ => ?_) (fun j hj => draw_by (by decide) fun r3 b0 b1 => ?_)
  · refine draw_by (by decide) fun kind c0 c1 => p_law_texts (by exact s0) (by show s ≤ 1000; omega) (by show (1:Int) ≤ 10; decide) (by show (10:Int) ≤ 1000; decide) fun ts t0 t1 t2 t3 => ?_
    have t1 : (ts.length : Int) ≤ s := t1
    refine WLc_by (by rw [sl_eq]; omega) (fun i acc => acc.map (·.1) = ts.take i ∧ ∀ p ∈ acc, 1 ≤ p.2 ∧ p.2 ≤ 10 ^ 40) ⟨rfl, (fun p h => nomatch h)⟩ (fun i x acc hx ⟨i1, i2⟩ => ?_) (fun acc ⟨i1, i2⟩ => ?_)
    · refine p_law_weight fun w w0 w1 => ⟨?_, fun p hp => ?_⟩
      · rw [List.map_append, i1, List.take_add_one, hx]
        rfl
      · rcases List.mem_append.mp hp with hp | hp
        · exact i2 p hp
        · rw [List.mem_singleton] at hp
          rw [hp]
          exact ⟨w0, w1⟩
    · rw [List.take_of_length_le (Nat.le_refl _)] at i1
      have hl : acc.length = ts.length := by rw [← i1, List.length_map]
      refine h acc ⟨fun e => t0 (by rw [← i1, e]; rfl), by omega, by rw [i1]; exact t2, i2, fun p hp => t3 _ ?_⟩ (by omega)
      rw [← i1]
      exact List.mem_map.mpr ⟨p, hp, rfl⟩
  · split
    · exact draw_by (by omega) fun r d0 d1 => hj _ ⟨by omega, by omega⟩
    · exact hj _ ⟨by omega, by omega⟩
/-! ### k00 -/
theorem look_cons {α : Type} {p : Str × α} {r : List (Str × α)} {t : Str} : look (p :: r) t = if p.1 = t then some p.2 else look r t := by
  unfold look
  by_cases h : p.1 = t
  · rw [if_pos h, List.find?_cons_of_pos (by exact decide_eq_true h)]; rfl
  · rw [if_neg h, List.find?_cons_of_neg (by simpa using h)]
theorem drop_at {α : Type} {xs : List α} {i : Nat} {x : α} (h : xs[i]? = some x) : xs.drop i = x :: xs.drop (i + 1) := by
  obtain ⟨hl, e⟩ := List.getElem?_eq_some_iff.mp h
  rw [List.drop_eq_getElem_cons hl, e]
theorem p_weight_in {y : List (Str × Int) × Str} {k : Int → Prop} (h : k ((look y.1 y.2).getD 0)) : w_law_weight_in y k := by
  unfold w_law_weight_in
  refine WFor_by (fun i _ => look y.1 y.2 = look (y.1.drop i) y.2) rfl (fun i x s hx hs => ?_) (fun s hs => ?_)
  · rw [drop_at hx, look_cons] at hs
    by_cases hc : x.1 = y.2
    · rw [if_pos (decide_eq_true hc)]
      rw [if_pos hc] at hs
      rw [hs] at h
      exact h
    · rw [if_neg (by rw [decide_eq_false hc]; decide)]
      rw [if_neg hc] at hs
      exact hs
  · rw [List.drop_eq_nil_of_le (Nat.le_refl _)] at hs
    rw [hs] at h
    exact h
theorem p_table_is {ps : List (Str × Int)} {others : List Str} {k : Bool → Prop} (g : GoodP ps) (ho : others.length ≤ 1000) (h : k true) : w_law_table_is ((ps, (ps.map (·.2)).sum), ps, others) k := by
  unfold w_law_table_is w_Table_texts w_law_integer w_Table_weight_of w_Table_share_of w_Table_weight_of
  simp only [Bnd]
  have hl := g.2.1
  have hs : (sortS (ps.map (·.1))).length = ps.length := by rw [(sortS_perm _).length_eq, List.length_map]
  refine ⟨by rw [sl_eq]; omega, by rw [sl_eq]; omega, by rw [List.length_map]; omega, ?_⟩
  rw [if_neg (by simp)]
  refine ⟨by show ps.length < 64; omega, ?_⟩
  have e : keys ps = ps.map (·.1) := rfl
  rw [e, if_neg (by simp)]
  refine ⟨by rw [hs, sl_eq]; omega, WFor_by (fun _ _ => True) trivial (fun i x s hx _ => ?_) (fun _ _ => h)⟩
  refine p_weight_in ?_
  rw [if_neg (by simp), if_neg (by simp)]
  have b := g.of x
  refine p_share (by have := g.pos; omega) (log_of (by have := g.pos; omega) g.lt) (p_law_is (by have := g.pos; omega) (log_of b.1 (Int.lt_of_le_of_lt b.2 (by decide))) (log_of (by have := g.pos; omega) g.lt) ?_)
  rw [if_neg (by simp)]
  trivial
theorem p_others {ps : List (Str × Int)} {k : List Str → Prop} (g : GoodP ps) (h : ∀ o : List Str, o.length ≤ 100 → k o) : w_law_others ps k := by
  unfold w_law_others w_law_signs
  simp only [Bnd]
  have hl := g.2.1
  have hpos : 0 < ps.length := List.length_pos_iff.mpr g.1
  refine ⟨by decide, WFor_by (fun i s => s.length = 3 * i + 1) rfl (fun i x s hx hs => ?_) (fun s hs => ?_)⟩
  · have hi := (rng_at hx).1
    have hi : i < 3 := hi
    refine draw_by (by omega) fun r r0 r1 => ?_
    obtain ⟨p, hp, ha⟩ := atI_lt (xs := ps) r0 (by omega)
    have hlen := g.2.2.2.2 p (List.mem_of_getElem? hp)
    refine ⟨p, ha, draw_by (by decide) fun r9 a0 a1 => ⟨by rw [sl_eq]; omega, by rw [sl_eq]; omega, by rw [sl_eq]; omega, draw_by (by decide) fun r12 b0 b1 => ⟨by decide, ?_⟩⟩⟩
    obtain ⟨c, _, hc⟩ := atI_lt (xs := (" !\"#$&'()*+,-./0123456789:;<=>?@ABCDEFGHIJKLMNOPQRSTUVWXYZ[\\]^_`abcdefghijklmnopqrstuvwxyz{|}~" : Str).cps.toList) b0 (Int.lt_of_lt_of_le b1 (by decide))
    have c1 := cutS_len p.1 none (some 9)
    refine ⟨c, hc, ?_, ?_, p_law_text (by decide) (by decide) fun t ht => ⟨?_, ?_⟩⟩
    · show (cutS p.1 none (some 9)).length + 1 ≤ sizeLine
      rw [sl_eq]; omega
    · rw [List.length_append]; show s.length + 1 < _; rw [sl_eq]; omega
    · rw [List.length_append, List.length_append]; show s.length + 1 + 1 < _; rw [sl_eq]; omega
    · show (_ ++ _ : List Str).length = _
      rw [List.length_append, List.length_append, List.length_append]
      show s.length + 1 + 1 + 1 = _
      omega
  · rw [rng_length] at hs
    exact h s (by rw [hs]; decide)
theorem law_true (ns : List Int) (hl : ns.length ≤ 63) : w_law ns (fun b => b = true) := by
  unfold w_law w_law_body w_law_start
  simp only [Bnd]
  refine ⟨⟨Int.le_refl _, Int.le_refl _, (by decide : (0 : Int) ≤ 7), (by decide : (7 : Int) < 2147483647)⟩, p_law_pairs (by decide) (by decide) fun ps g _ => p_others g fun others ho => ?_⟩
  have hpl := g.2.1
  have hpos : 0 < ps.length := List.length_pos_iff.mpr g.1
  refine WLc_by (by rw [sl_eq]; omega) (fun i acc => acc.map (·.1) = (ps.take i).map (·.1) ∧ ∀ p ∈ acc, 1 ≤ p.2 ∧ p.2 ≤ 10 ^ 40) ⟨rfl, (fun p h => nomatch h)⟩ (fun i x acc hx ⟨i1, i2⟩ => ?_) (fun acc ⟨i1, i2⟩ => ?_)
  · refine draw_by (by decide) fun r r0 r1 => ⟨?_, fun p hp => ?_⟩
    · rw [List.map_append, i1, List.take_add_one, hx]
      simp
    · rcases List.mem_append.mp hp with hp | hp
      · exact i2 p hp
      · rw [List.mem_singleton] at hp
        rw [hp]
        exact ⟨by show 1 ≤ 1 + r; omega, by show 1 + r ≤ _; omega⟩
  · rw [List.take_of_length_le (Nat.le_refl _)] at i1
    have hal : acc.length = ps.length := by rw [← List.length_map (f := fun p : Str × Int => p.1), i1, List.length_map]
    have ga : GoodP acc := ⟨fun e => by rw [e] at hal; simp at hal; omega, by omega, by rw [i1]; exact g.2.2.1, i2, fun p hp => by
      have : p.1 ∈ ps.map (·.1) := by rw [← i1]; exact List.mem_map.mpr ⟨p, hp, rfl⟩
      obtain ⟨q, hq, e⟩ := List.mem_map.mp this
      rw [← e]
      exact g.2.2.2.2 q hq⟩
    have hid : ∀ l : List (Str × Int), l.map (fun x => x) = l := List.map_id'
    refine draw_by (by decide) fun form f0 f1 => ?_
    refine Jn_by (fun s : List (Str × Int) × Int => s = (ps, (ps.map (·.2)).sum)) (fun s hs => ?_) (fun j hj => ?_)
    · subst hs
      refine p_table_is g (by omega) ?_
      rw [if_neg (by simp)]
      rw [hid]
      refine ⟨by rw [sl_eq]; omega, ga.tab (p_table_is ga (by omega) ?_)⟩
      rw [if_neg (by simp)]
      refine p_table_is g (by omega) ?_
      rw [if_pos rfl]
      exact p_table_is ga (by omega) rfl
    · split
      · rw [hid]
        refine ⟨by rw [sl_eq]; omega, g.tab ⟨by rw [sl_eq]; omega, ?_⟩⟩
        rw [if_neg (by simp)]
        have g0 : ps[((0 : Int)).toNat]? = some ps[0] := by simp [hpos]
        have gl : ps[(((ps.length : Int) - 1)).toNat]? = some ps[ps.length - 1] := by
          have : ((ps.length : Int) - 1).toNat = ps.length - 1 := by omega
          rw [this]
          exact List.getElem?_eq_getElem (by omega)
        exact ⟨by decide, _, g0, fun n => ⟨by decide, _, g0, by omega, _, gl, by rw [sl_eq]; omega, hj _ rfl⟩⟩
      · refine Jn_by (fun s : List (Str × Int) × Int => s = (ps, (ps.map (·.2)).sum)) (fun s hs => hj s hs) (fun j' hj' => ?_)
        split
        · refine g.tab ?_
          rw [if_neg (by simp)]
          exact draw_by (by omega) fun r r0 r1 => ⟨r0, by omega, by rw [sl_eq]; omega, hj' _ rfl⟩
        · exact g.tab (hj' _ rfl)
end Zk
set_option maxHeartbeats 0
namespace Zk
open PySem PySem.Spec L2
/-! ### the head -/
def dd (c : Str × Option Str) (n q : Str) (s : Stmt) : He.DefD := ⟨c, n, q, defArgs s, defBody s, defScope s, [], []⟩
def fn : List He.DefD := [dd ("_is_integer", none) "_is_integer" "_is_integer" s_is_integer, dd ("Table", some "__init__") "__init__" "Table.__init__" s_Table___init__, dd ("_law_draw", none) "_law_draw" "_law_draw" s_law_draw, dd ("_law_signs", none) "_law_signs" "_law_signs" s_law_signs, dd ("_law_text", none) "_law_text" "_law_text" s_law_text, dd ("_law_others", none) "_law_others" "_law_others" s_law_others, dd ("_law_texts", none) "_law_texts" "_law_texts" s_law_texts, dd ("_law_wide", none) "_law_wide" "_law_wide" s_law_wide, dd ("_law_weight", none) "_law_weight" "_law_weight" s_law_weight, dd ("_law_pairs", none) "_law_pairs" "_law_pairs" s_law_pairs, dd ("_law_start", none) "_law_start" "_law_start" s_law_start, dd ("greatest_divisor", none) "greatest_divisor" "greatest_divisor" s_greatest_divisor, dd ("Share", some "__init__") "__init__" "Share.__init__" s_Share___init__, dd ("Table", some "weight_of") "weight_of" "Table.weight_of" s_Table_weight_of, dd ("Table", some "share_of") "share_of" "Table.share_of" s_Table_share_of, dd ("Table", some "texts") "texts" "Table.texts" s_Table_texts, dd ("_law_integer", none) "_law_integer" "_law_integer" s_law_integer, dd ("_law_gcd", none) "_law_gcd" "_law_gcd" s_law_gcd, dd ("_law_is", none) "_law_is" "_law_is" s_law_is, dd ("_law_weight_in", none) "_law_weight_in" "_law_weight_in" s_law_weight_in, dd ("_law_table_is", none) "_law_table_is" "_law_table_is" s_law_table_is, dd ("_law_body", none) "_law_body" "_law_body" s_law_body, dd ("law", none) "law" "law" s_law]
def fa : List He.Fa := [.cls "Share", .cls "Table", .glo "Share", .glo "Table", .glo "greatest_divisor", .glo "_is_integer", .glo "law", .glo "_law_body", .glo "_law_draw", .glo "_law_gcd", .glo "_law_integer", .glo "_law_is", .glo "_law_others", .glo "_law_pairs", .glo "_law_signs", .glo "_law_start", .glo "_law_table_is", .glo "_law_text", .glo "_law_texts", .glo "_law_weight", .glo "_law_weight_in", .glo "_law_wide", .mkr "Share", .mkr "Table", .free "abs", .free "bool", .free "enumerate", .free "int", .free "isinstance", .free "len", .free "list", .free "max", .free "min", .free "range", .free "sorted", .free "sum", .free "tuple", .meth "Table" "share_of", .meth "Table" "texts", .meth "Table" "weight_of", .noat "Share" "over", .noat "Share" "under", .noat "Table" "weights", .noat "Table" "whole"]
abbrev Rw : PySem.W.OpenRow := PySem.W.OpenLaw.row PySem.Challenge.rw_sourcestold_k00_tables
def xas : List (PySem.W.Frag → Bool) := [fun K => isiB K "Share"]
def xa (K : PySem.W.Frag) : Bool := xas.all fun f => f K
abbrev hk : PySem.W.Hook := hookX 5 xa fa fn
def ob (s : PySem.W.SharedT) : He.AlD × Bool := obsXG 5 xa fa fn (HandSHeadRun.getT s)
theorem ob_eq (s : PySem.W.SharedT) : ob s = hk.obs s.abs := obsXG_eq (HandSHeadRun.getT_eq s)
def names : List PySem.Str := ["_wall", "__name__", "MarkError", "InvalidNumber", "InvalidPair", "greatest_divisor", "Share", "_is_integer", "_text_at", "Table", "_law_integer", "_law_gcd", "_law_start", "_law_draw", "_law_wide", "_law_is", "_law_signs", "_law_text", "_law_texts", "_law_weight", "_law_pairs", "_law_weight_in", "_law_table_is", "_law_others", "_law_body"]
theorem run (w : World) : HandSHeadRun.RunEq Rw (PySem.W.view Rw.prog [29]) hk ob 4000 names w := by
  intro os
  kernel_rfl
theorem txt {K : PySem.W.Frag} {h : Heap} {mg : Str → Option Value} (X : K.In h) (G : h.Ns mainGlobals mg) (c : SaysX xa fa fn K) : Txt K mg where
  f_is_integer := c.1.def_ 0
  f_Table___init__ := c.1.def_ 1
  f_law_draw := c.1.def_ 2
  f_law_signs := c.1.def_ 3
  f_law_text := c.1.def_ 4
  f_law_others := c.1.def_ 5
  f_law_texts := c.1.def_ 6
  f_law_wide := c.1.def_ 7
  f_law_weight := c.1.def_ 8
  f_law_pairs := c.1.def_ 9
  f_law_start := c.1.def_ 10
  f_greatest_divisor := c.1.def_ 11
  f_Share___init__ := c.1.def_ 12
  f_Table_weight_of := c.1.def_ 13
  f_Table_share_of := c.1.def_ 14
  f_Table_texts := c.1.def_ 15
  f_law_integer := c.1.def_ 16
  f_law_gcd := c.1.def_ 17
  f_law_is := c.1.def_ 18
  f_law_weight_in := c.1.def_ 19
  f_law_table_is := c.1.def_ 20
  f_law_body := c.1.def_ 21
  f_law := c.1.def_ 22
  c_Share := He.cls_ok (c.1.fact 0 (f := .cls "Share") rfl)
  c_Table := He.cls_ok (c.1.fact 1 (f := .cls "Table") rfl)
  g_Share := He.glo_ok X G (c.1.fact 2 (f := .glo "Share") rfl)
  g_Table := He.glo_ok X G (c.1.fact 3 (f := .glo "Table") rfl)
  g_greatest_divisor := He.glo_ok X G (c.1.fact 4 (f := .glo "greatest_divisor") rfl)
  g_is_integer := He.glo_ok X G (c.1.fact 5 (f := .glo "_is_integer") rfl)
  g_law := He.glo_ok X G (c.1.fact 6 (f := .glo "law") rfl)
  g_law_body := He.glo_ok X G (c.1.fact 7 (f := .glo "_law_body") rfl)
  g_law_draw := He.glo_ok X G (c.1.fact 8 (f := .glo "_law_draw") rfl)
  g_law_gcd := He.glo_ok X G (c.1.fact 9 (f := .glo "_law_gcd") rfl)
  g_law_integer := He.glo_ok X G (c.1.fact 10 (f := .glo "_law_integer") rfl)
  g_law_is := He.glo_ok X G (c.1.fact 11 (f := .glo "_law_is") rfl)
  g_law_others := He.glo_ok X G (c.1.fact 12 (f := .glo "_law_others") rfl)
  g_law_pairs := He.glo_ok X G (c.1.fact 13 (f := .glo "_law_pairs") rfl)
  g_law_signs := He.glo_ok X G (c.1.fact 14 (f := .glo "_law_signs") rfl)
  g_law_start := He.glo_ok X G (c.1.fact 15 (f := .glo "_law_start") rfl)
  g_law_table_is := He.glo_ok X G (c.1.fact 16 (f := .glo "_law_table_is") rfl)
  g_law_text := He.glo_ok X G (c.1.fact 17 (f := .glo "_law_text") rfl)
  g_law_texts := He.glo_ok X G (c.1.fact 18 (f := .glo "_law_texts") rfl)
  g_law_weight := He.glo_ok X G (c.1.fact 19 (f := .glo "_law_weight") rfl)
  g_law_weight_in := He.glo_ok X G (c.1.fact 20 (f := .glo "_law_weight_in") rfl)
  g_law_wide := He.glo_ok X G (c.1.fact 21 (f := .glo "_law_wide") rfl)
  i_Share := isi_ok (He.cls_ok (c.1.fact 0 (f := .cls "Share") rfl)) (List.all_eq_true.mp c.2 _ (List.mem_of_getElem? (i := 0) rfl))
  k_Share := He.mkr_ok (c.1.fact 22 (f := .mkr "Share") rfl)
  k_Table := He.mkr_ok (c.1.fact 23 (f := .mkr "Table") rfl)
  l_abs := He.free_ok X G (c.1.fact 24 (f := .free "abs") rfl)
  l_bool := He.free_ok X G (c.1.fact 25 (f := .free "bool") rfl)
  l_enumerate := He.free_ok X G (c.1.fact 26 (f := .free "enumerate") rfl)
  l_int := He.free_ok X G (c.1.fact 27 (f := .free "int") rfl)
  l_isinstance := He.free_ok X G (c.1.fact 28 (f := .free "isinstance") rfl)
  l_len := He.free_ok X G (c.1.fact 29 (f := .free "len") rfl)
  l_list := He.free_ok X G (c.1.fact 30 (f := .free "list") rfl)
  l_max := He.free_ok X G (c.1.fact 31 (f := .free "max") rfl)
  l_min := He.free_ok X G (c.1.fact 32 (f := .free "min") rfl)
  l_range := He.free_ok X G (c.1.fact 33 (f := .free "range") rfl)
  l_sorted := He.free_ok X G (c.1.fact 34 (f := .free "sorted") rfl)
  l_sum := He.free_ok X G (c.1.fact 35 (f := .free "sum") rfl)
  l_tuple := He.free_ok X G (c.1.fact 36 (f := .free "tuple") rfl)
  m_Table_share_of := He.meth_ok (c.1.fact 37 (f := .meth "Table" "share_of") rfl)
  m_Table_texts := He.meth_ok (c.1.fact 38 (f := .meth "Table" "texts") rfl)
  m_Table_weight_of := He.meth_ok (c.1.fact 39 (f := .meth "Table" "weight_of") rfl)
  n_Share_over := He.noat_ok (c.1.fact 40 (f := .noat "Share" "over") rfl)
  n_Share_under := He.noat_ok (c.1.fact 41 (f := .noat "Share" "under") rfl)
  n_Table_weights := He.noat_ok (c.1.fact 42 (f := .noat "Table" "weights") rfl)
  n_Table_whole := He.noat_ok (c.1.fact 43 (f := .noat "Table" "whole") rfl)
theorem facts {P : Program} {w : World} {K : PySem.W.Frag} {h : Heap} {mg : Str → Option Value} {f : Addr} (X : K.In h) (G : h.Ns mainGlobals mg) (hfa : mg ("law" : Str) = some (.ref f)) (c : SaysX xa fa fn K) :
    ∃ fd : FuncData, (∀ (s : Shared) (v : Value), BindsTo s fd ⟨[v], []⟩ [("script", v)]) ∧ ∀ base : Heap, K.In base → base.Ns mainGlobals mg → FnOk P w K mg base CX0 7 f fd ["script"] (spP (Row.one (tyZ K)) tyB (w_law)) := by
  have T := txt X G c
  obtain ⟨fd, F⟩ := T.f_law
  have e := hfa.symm.trans (He.glo_ok X G (c.1.fact 6 (f := .glo "law") rfl))
  cases e
  have b := FunD.bindsA (ps := ["script"]) F fun _ _ _ _ _ _ us hl => match us, hl with | [_], _ => rfl
  exact ⟨fd, fun s v => b s [v] rfl, fun base _ _ => fo_law T F⟩
end Zk
set_option maxHeartbeats 0
open PySem PySem.W PySem.Calls PyProof.Rows
theorem PySem.Challenge.cw_sourcestold_k00_tables_holds : PySem.Challenge.rw_sourcestold_k00_tables.Holds := by
  w_on; o_law
  refine HandSHeadRun.head_any (r := OpenLaw.row PySem.Challenge.rw_sourcestold_k00_tables) (q := view (OpenLaw.row PySem.Challenge.rw_sourcestold_k00_tables).prog [29]) (H := Zk.hk) (ob := Zk.ob) (M := 4000) (loose := Zk.names) (d := HandSHeadRun.topDef (OpenLaw.row PySem.Challenge.rw_sourcestold_k00_tables).prog 29) (kwd := []) Zk.ob_eq
    (by kernel_rfl) (fun s => by kernel_rfl) Zk.run (by kernel_rfl) (by kernel_rfl) (by kernel_rfl) (by rfl) (by first | assumption | decide +kernel) (by decide +kernel) ⟨rfl, rfl, rfl, rfl, rfl, by decide +kernel⟩ ?hw ?hc
  case hw => w_witness2
  case hc =>
    refine L2.walk_ofE (l := PySem.Challenge.rw_sourcestold_k00_tables) (n := 63) (k := 7) (x := "script") (CX := L2.CX0) rfl (by decide) (by kernel_rfl) ⟨rfl, by decide, by decide⟩ ?F (fun _ _ _ _ z => z)
    intro w mg fa h Y G hmg0
    obtain ⟨K, KX, c⟩ := Y
    have hmg : mg ("law" : PySem.Str) = some (.ref fa) := by
      have e : (HandSHeadRun.topDef (OpenLaw.row PySem.Challenge.rw_sourcestold_k00_tables).prog 29).name = ("law" : PySem.Str) := by kernel_rfl
      rw [← e]
      exact hmg0
    obtain ⟨fd, hb, hF⟩ := Zk.facts (P := (PySem.Challenge.rw_sourcestold_k00_tables).prog) (w := w) KX G hmg c
    exact ⟨K, fd, _, KX, hb, fun H a ns hl _ hS => ⟨H, ns, fun b => b = true, ⟨Zk.Same.sub (L2.Same.refl H), (fun _ e => nomatch e)⟩, ⟨_, rfl, a, rfl, hS⟩, Zk.law_true ns hl, fun G' H' v y _ _ r e => by
      have r : v = L2.V.bl y := r
      rw [r, e]⟩, hF⟩
