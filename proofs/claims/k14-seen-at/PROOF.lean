import PyProof.Rows.All
import Wide.All
import OpenK.AllK
import Wide.FinOn
import KE.KStateDown
import HandS.ForMost
import HandS.Defaults
import HandS.Wide
import HandS.Iter
import HandS.IsInst
import HandS.Conv
import HandS.NoneIn
import KE.GoesMore
import HandS.TryOnly
import HandS.Exc
import HandS.Sort
import HandS.More
import HandS.WideBits
import HandS.HeadHook1
import HandS.HeadHook2
import PyProof.SumAny
import PyProof.Rows.SumGenD
import HandS.MakeKw
import HandS.MakeKwOnly
import HandS.OwnEq
import HandS.TupAny
import KE.GoesEnum
import KE.GoesZip
import KE.SortData
import KE.SortLaws
import HandS.DictComp
import HandS.SetTxt0
import HandS.Set
import HandS.Strs
import HandS.Head0
import HandS.Head1
import HandS.Head2
import HandS.HeadEnd
import PySem.Challenge.RW_sourcestold_k14_seen_at
set_option exponentiation.threshold 9000
set_option Elab.async false
set_option linter.all false
set_option maxRecDepth 100000
set_option maxHeartbeats 4000000
/-! TL1: kinds of data, the frozen heap, typed slots, judgements. -/
namespace Zk
open PySem PySem.Spec L2

/-! ### kinds of data -/
structure Ty (α : Type) where
  rep : Hp → V → α → Prop
  mono : ∀ {G G' : Hp} {v : V} {x : α}, Same G G' → rep G v x → rep G' v x
theorem rd_mono {G G' : Hp} {a : Addr} {u : HO} (s : Same G G') (h : Rd G a u) : Rd G' a u := by
  rcases h with h | ⟨o, h⟩
  · exact .inl (s _ _ h)
  · exact .inr ⟨o, s _ _ h⟩
theorem Paired.mono {α β : Type} {F F' : α → β → Prop} (h : ∀ a b, F a b → F' a b) : ∀ {l : List α} {m : List β}, Paired F l m → Paired F' l m
  | _, _, .nil => .nil
  | _, _, .cons r t => .cons (h _ _ r) (Paired.mono h t)
def tyI : Ty Int := ⟨fun _ v x => v = .int x, fun _ h => h⟩
def tyB : Ty Bool := ⟨fun _ v x => v = .bl x, fun _ h => h⟩
/-- every sign has its place -/
def sOk (x : Str) : Bool := x.cps.all (· < 0x110000)
def tyS : Ty Str := ⟨fun _ v x => v = .str x ∧ sOk x = true, fun _ h => h⟩
theorem sok_iff {x : Str} : sOk x = true ↔ ∀ c ∈ x.cps.toList, c < 0x110000 := by
  unfold sOk
  rw [← Array.all_toList, List.all_eq_true]
  exact ⟨fun h c hc => of_decide_eq_true (h c hc), fun h c hc => decide_eq_true (h c hc)⟩
theorem sok_app {a b : Str} (h : sOk a = true) (h' : sOk b = true) : sOk (a ++ b) = true := sok_iff.mpr fun c hc => by
  have hc : c ∈ (a.cps ++ b.cps).toList := hc
  rw [Array.toList_append] at hc
  exact (List.mem_append.mp hc).elim (sok_iff.mp h c) (sok_iff.mp h' c)
theorem sok_one {s : Str} {c : Nat} (h : sOk s = true) (hc : c ∈ s.cps.toList) : sOk ⟨#[c]⟩ = true := sok_iff.mpr fun d hd => by
  have hd : d ∈ [c] := hd
  rw [List.mem_singleton.mp hd]
  exact sok_iff.mp h c hc
def tyU : Ty Unit := ⟨fun _ v _ => v = .non, fun _ h => h⟩
def tyL {α : Type} (A : Ty α) : Ty (List α) where
  rep := fun G v xs => ∃ a vs, v = .ref a ∧ G a = some (.lst vs) ∧ Paired (A.rep G) vs xs
  mono := fun s ⟨a, vs, e, r, p⟩ => ⟨a, vs, e, s _ _ r, Paired.mono (fun _ _ => A.mono s) p⟩
/-- a tuple of many of one kind -/
def tyP {α : Type} (A : Ty α) : Ty (List α) where
  rep := fun G v xs => ∃ a vs, v = .ref a ∧ G a = some (.tup vs) ∧ Paired (A.rep G) vs xs
  mono := fun s ⟨a, vs, e, r, p⟩ => ⟨a, vs, e, s _ _ r, Paired.mono (fun _ _ => A.mono s) p⟩
/-- values in a row, each of its kind -/
structure Row (ρ : Type) where
  n : Nat
  rep : Hp → List V → ρ → Prop
  mono : ∀ {G G' : Hp} {vs : List V} {x : ρ}, Same G G' → rep G vs x → rep G' vs x
  len : ∀ {G : Hp} {vs : List V} {x : ρ}, rep G vs x → vs.length = n
def Row.nil : Row Unit := ⟨0, fun _ vs _ => vs = [], fun _ h => h, fun h => by rw [h]; rfl⟩
def Row.one {α : Type} (A : Ty α) : Row α where
  n := 1
  rep := fun G vs x => ∃ v, vs = [v] ∧ A.rep G v x
  mono := fun s ⟨v, e, r⟩ => ⟨v, e, A.mono s r⟩
  len := fun ⟨v, e, _⟩ => by rw [e]; rfl
def Row.cons {α ρ : Type} (A : Ty α) (R : Row ρ) : Row (α × ρ) where
  n := R.n + 1
  rep := fun G vs x => ∃ v r, vs = v :: r ∧ A.rep G v x.1 ∧ R.rep G r x.2
  mono := fun s ⟨v, r, e, h, q⟩ => ⟨v, r, e, A.mono s h, R.mono s q⟩
  len := fun ⟨v, r, e, h, q⟩ => by rw [e, List.length_cons, R.len q]
def tyT {ρ : Type} (R : Row ρ) : Ty ρ where
  rep := fun G v x => ∃ a vs, v = .ref a ∧ G a = some (.tup vs) ∧ R.rep G vs x
  mono := fun s ⟨a, vs, e, r, p⟩ => ⟨a, vs, e, s _ _ r, R.mono s p⟩
/-- a list of so many, each of its kind -/
def tyM {ρ : Type} (R : Row ρ) : Ty ρ where
  rep := fun G v x => ∃ a vs, v = .ref a ∧ G a = some (.lst vs) ∧ R.rep G vs x
  mono := fun s ⟨a, vs, e, r, p⟩ => ⟨a, vs, e, s _ _ r, R.mono s p⟩
def kvR {α : Type} (A : Ty α) (G : Hp) (p : Key × V) (q : Str × α) : Prop := (p.1 = .inr q.1 ∧ sOk q.1 = true) ∧ A.rep G p.2 q.2
def tyD {α : Type} (A : Ty α) : Ty (List (Str × α)) where
  rep := fun G v x => ∃ a ks, v = .ref a ∧ G a = some (.dK ks) ∧ Paired (kvR A G) ks x
  mono := fun s ⟨a, vs, e, r, p⟩ => ⟨a, vs, e, s _ _ r, Paired.mono (fun _ _ q => ⟨q.1, A.mono s q.2⟩) p⟩
def tyO {ρ : Type} (C : Addr) (ns : List Str) (R : Row ρ) : Ty ρ where
  rep := fun G v x => ∃ p dx vs, v = .ref p ∧ G p = some (.ins C dx (ns.zip vs)) ∧ R.rep G vs x
  mono := fun s ⟨p, dx, vs, e, r, q⟩ => ⟨p, dx, vs, e, s _ _ r, R.mono s q⟩
/-- the script's list -/
def tyZ (K : PySem.W.Frag) : Ty (List Int) where
  rep := fun G v xs => ∃ a, v = .ref a ∧ SqL K G a (xs.map V.int)
  mono := fun s ⟨a, e, r⟩ => ⟨a, e, r.imp (rd_mono s) id⟩
/-- None, or one -/
def tyN {α : Type} (A : Ty α) : Ty (Option α) where
  rep := fun G v x => match x with
    | none => v = .non
    | some y => A.rep G v y
  mono := fun {_ _ _ x} s h => match x, h with
    | none, h => h
    | some _, h => A.mono s h

/-! ### the law's own state: a list that changes -/
structure Zs where
  at_ : Option Addr
  ok : Hp → HO → Prop
  mono : ∀ {G G' : Hp} {o : HO}, Same G G' → ok G o → ok G' o
def Z0 : Zs := ⟨none, fun _ _ => True, fun _ h => h⟩
/-- H holds what G tells; a dict may be locked while a loop walks it -/
def Sub (G H : Hp) : Prop := ∀ b u, G b = some u → H b = some u ∨ ∃ o kvs, u = .dK kvs ∧ H b = some (.frz o u)
theorem Sub.free {G H : Hp} (s : Sub G H) {p : Addr} (h : H p = none) : G p = none := by
  cases q : G p with
  | none => rfl
  | some u =>
    rcases s p u q with e | ⟨_, _, _, e⟩ <;> (rw [h] at e; cases e)
theorem Same.sub {G H : Hp} (s : Same G H) : Sub G H := fun b u e => .inl (s b u e)
structure Wd (z : Zs) (G H : Hp) : Prop where
  gh : Sub G H
  zk : ∀ s, z.at_ = some s → G s = none ∧ ∃ o, H s = some o ∧ z.ok G o
structure Stp (z : Zs) (G H G' H' : Hp) : Prop where
  g : Same G G'
  h : ∀ a o, z.at_ ≠ some a → H a = some o → H' a = some o
  n : ∀ a o, H a = some o → G a = none → G' a = none
  t : ∀ a o, H a = some o → ∃ o', H' a = some o'
theorem Stp.refl (z : Zs) (G H : Hp) : Stp z G H G H := ⟨Same.refl _, fun _ _ _ e => e, fun _ _ _ e => e, fun _ _ e => ⟨_, e⟩⟩
theorem Stp.trans {z : Zs} {G H G1 H1 G2 H2 : Hp} (a : Stp z G H G1 H1) (b : Stp z G1 H1 G2 H2) : Stp z G H G2 H2 :=
  ⟨a.g.trans b.g, fun c o e h => b.h c o e (a.h c o e h), fun c o h e => by
    obtain ⟨o', h'⟩ := a.t c o h
    exact b.n c o' h' (a.n c o h e), fun c o h => by
    obtain ⟨o', h'⟩ := a.t c o h
    exact b.t c o' h'⟩
theorem Stp.lift {z : Zs} {G H G' H' : Hp} (a : Stp Z0 G H G' H') : Stp z G H G' H' :=
  ⟨a.g, fun c o _ h => a.h c o (fun q => nomatch q) h, a.n, a.t⟩
theorem Wd.z0 {z : Zs} {G H : Hp} (a : Wd z G H) : Wd Z0 G H := ⟨a.gh, fun _ e => nomatch e⟩
/-- behind a callee that leaves the state alone -/
theorem Wd.after0 {z : Zs} {G H G' H' : Hp} (a : Wd z G H) (w : Wd Z0 G' H') (b : Stp Z0 G H G' H') : Wd z G' H' :=
  ⟨w.gh, fun s e => by
    obtain ⟨h1, o, h2, h3⟩ := a.zk s e
    exact ⟨b.n s o h2 h1, o, b.h s o (fun q => nomatch q) h2, z.mono b.g h3⟩⟩
theorem same_upd {G H : Hp} {p : Addr} {o : HO} (s : Same G H) : Same (upd G p o) (upd H p o) := fun b u e => by
  by_cases hb : b = p
  · subst hb
    rw [upd_same] at e ⊢
    exact e
  · rw [upd_ne hb] at e ⊢
    exact s _ _ e
theorem sub_upd {G H : Hp} {p : Addr} {o : HO} (s : Sub G H) : Sub (upd G p o) (upd H p o) := fun b u e => by
  by_cases hb : b = p
  · subst hb
    rw [upd_same] at e ⊢
    exact .inl e
  · rw [upd_ne hb] at e ⊢
    exact s _ _ e
theorem same_new {H : Hp} {p : Addr} {o : HO} (h : H p = none) : Same H (upd H p o) := fun b u e => by
  rw [upd_ne (ne_of_none e h)]
  exact e
/-- a new object, frozen at once -/
theorem Stp.new {z : Zs} {G H : Hp} {p : Addr} {o : HO} (s : Sub G H) (h : H p = none) : Stp z G H (upd G p o) (upd H p o) :=
  ⟨same_new (s.free h), fun a u _ e => same_new h a u e, fun a u e g => by
    rw [upd_ne (ne_of_none e h)]
    exact g, fun a u e => ⟨u, same_new h a u e⟩⟩
theorem Wd.new {z : Zs} {G H : Hp} {p : Addr} {o : HO} (w : Wd z G H) (h : H p = none) : Wd z (upd G p o) (upd H p o) :=
  ⟨sub_upd w.gh, fun s e => by
    obtain ⟨h1, u, h2, h3⟩ := w.zk s e
    have ne := ne_of_none h2 h
    exact ⟨by rw [upd_ne ne]; exact h1, u, by rw [upd_ne ne]; exact h2, z.mono (same_new (w.gh.free h)) h3⟩⟩
/-- a new object that stays one's own -/
theorem Stp.own {z : Zs} {G H : Hp} {p : Addr} {o : HO} (h : H p = none) : Stp z G H G (upd H p o) :=
  ⟨Same.refl _, fun a u _ e => same_new h a u e, fun a u e g => g, fun a u e => ⟨u, same_new h a u e⟩⟩
theorem Wd.own {z : Zs} {G H : Hp} {p : Addr} {o : HO} (w : Wd z G H) (h : H p = none) : Wd z G (upd H p o) :=
  ⟨fun b u e => (w.gh b u e).imp (fun q => same_new h b u q) fun ⟨o, k, e1, e2⟩ => ⟨o, k, e1, same_new h b _ e2⟩, fun s e => by
    obtain ⟨h1, u, h2, h3⟩ := w.zk s e
    exact ⟨h1, u, same_new h _ _ h2, h3⟩⟩
/-- one's own object changes -/
theorem Wd.set {z : Zs} {G H : Hp} {p : Addr} {o : HO} (w : Wd z G H) (h : G p = none) (hz : z.at_ ≠ some p) : Wd z G (upd H p o) :=
  ⟨fun b u e => by rw [upd_ne (ne_of_none e h)]; exact w.gh b u e, fun s e => by
    obtain ⟨h1, u, h2, h3⟩ := w.zk s e
    refine ⟨h1, u, ?_, h3⟩
    rw [upd_ne (fun q => hz (by rw [← q]; exact e))]
    exact h2⟩
/-- one's own object is frozen -/
theorem Wd.frz {z : Zs} {G H : Hp} {p : Addr} {o : HO} (w : Wd z G H) (h : H p = some o) (hg : G p = none) (hz : z.at_ ≠ some p) : Wd z (upd G p o) H :=
  ⟨fun b u e => by
    by_cases hb : b = p
    · subst hb
      rw [upd_same] at e
      cases e
      exact .inl h
    · rw [upd_ne hb] at e
      exact w.gh b u e, fun s e => by
    obtain ⟨h1, u, h2, h3⟩ := w.zk s e
    refine ⟨?_, u, h2, z.mono (same_new hg) h3⟩
    rw [upd_ne (fun q => hz (by rw [← q]; exact e))]
    exact h1⟩

/-- two heaps as one -/
def jn (G R : Hp) : Hp := fun a => match R a with
  | some u => some u
  | none => G a
theorem jn_same {G R : Hp} (h : ∀ a u, R a = some u → G a = none) : Same G (jn G R) := fun a u e => by
  unfold jn
  cases q : R a with
  | none => exact e
  | some w => rw [h a w q] at e; cases e
theorem jn_in {G R : Hp} {a : Addr} {u : HO} (h : R a = some u) : jn G R a = some u := by unfold jn; rw [h]
/-- a kind of data whose lists stand in a region R of their own, all else in the frozen heap G -/
structure Ty2 (α : Type) where
  T : Ty α
  rep : Hp → Hp → V → α → Prop
  to : ∀ {G R : Hp} {v : V} {x : α}, (∀ a u, R a = some u → G a = none) → rep G R v x → T.rep (jn G R) v x
  mono : ∀ {G G' R R' : Hp} {v : V} {x : α}, Same G G' → Same R R' → rep G R v x → rep G' R' v x
structure Row2 (ρ : Type) where
  T : Row ρ
  rep : Hp → Hp → List V → ρ → Prop
  to : ∀ {G R : Hp} {vs : List V} {x : ρ}, (∀ a u, R a = some u → G a = none) → rep G R vs x → T.rep (jn G R) vs x
  mono : ∀ {G G' R R' : Hp} {vs : List V} {x : ρ}, Same G G' → Same R R' → rep G R vs x → rep G' R' vs x
abbrev t2N {α : Type} (A : Ty α) : Ty2 α := ⟨A, fun G _ v x => A.rep G v x, fun h r => A.mono (jn_same h) r, fun s _ r => A.mono s r⟩
abbrev t2L {α : Type} (A : Ty2 α) : Ty2 (List α) where
  T := tyL A.T
  rep := fun G R v xs => ∃ a vs, v = .ref a ∧ R a = some (.lst vs) ∧ Paired (A.rep G R) vs xs
  to := fun h ⟨a, vs, e, r, p⟩ => ⟨a, vs, e, jn_in r, Paired.mono (fun _ _ => A.to h) p⟩
  mono := fun s t ⟨a, vs, e, r, p⟩ => ⟨a, vs, e, t _ _ r, Paired.mono (fun _ _ => A.mono s t) p⟩
abbrev t2M {ρ : Type} (R2 : Row2 ρ) : Ty2 ρ where
  T := tyM R2.T
  rep := fun G R v x => ∃ a vs, v = .ref a ∧ R a = some (.lst vs) ∧ R2.rep G R vs x
  to := fun h ⟨a, vs, e, r, p⟩ => ⟨a, vs, e, jn_in r, R2.to h p⟩
  mono := fun s t ⟨a, vs, e, r, p⟩ => ⟨a, vs, e, t _ _ r, R2.mono s t p⟩
abbrev Row2.nil : Row2 Unit := ⟨Row.nil, fun _ _ vs _ => vs = [], fun _ h => h, fun _ _ h => h⟩
abbrev Row2.one {α : Type} (A : Ty2 α) : Row2 α := ⟨Row.one A.T, fun G R vs x => ∃ v, vs = [v] ∧ A.rep G R v x, fun h ⟨v, e, r⟩ => ⟨v, e, A.to h r⟩, fun s t ⟨v, e, r⟩ => ⟨v, e, A.mono s t r⟩⟩
abbrev Row2.cons {α ρ : Type} (A : Ty2 α) (B : Row2 ρ) : Row2 (α × ρ) :=
  ⟨Row.cons A.T B.T, fun G R vs x => ∃ v r, vs = v :: r ∧ A.rep G R v x.1 ∧ B.rep G R r x.2, fun h ⟨v, r, e, p, q⟩ => ⟨v, r, e, A.to h p, B.to h q⟩, fun s t ⟨v, r, e, p, q⟩ => ⟨v, r, e, A.mono s t p, B.mono s t q⟩⟩

/-! ### slots -/
structure Fz : Type 1 where
  {α : Type}
  A : Ty α
  x : α
def fzR (G : Hp) (fv : Str × V) (f : Str × Fz) : Prop := fv.1 = f.1 ∧ f.2.A.rep G fv.2 f.2.x
inductive FR (G : Hp) : List (Str × V) → List (Str × Fz) → Prop
  | nil : FR G [] []
  | cons {a b l m} : fzR G a b → FR G l m → FR G (a :: l) (b :: m)
theorem FR.mono {G G' : Hp} (s : Same G G') : ∀ {l m}, FR G l m → FR G' l m
  | _, _, .nil => .nil
  | _, _, .cons (b := b) r t => .cons ⟨r.1, b.2.A.mono s r.2⟩ (FR.mono s t)
inductive FV (G : Hp) : List V → List (Str × Fz) → Prop
  | nil : FV G [] []
  | cons {a b l m} : b.2.A.rep G a b.2.x → FV G l m → FV G (a :: l) (b :: m)
inductive Sl : Type 1
  | no
  | fz {α : Type} (A : Ty α) (x : α)
  | ml {α : Type} (A : Ty α) (xs : List α)
  | md {α : Type} (A : Ty α) (kvs : List (Str × α))
  | st
  | ob (p C : Addr) (fs : List (Str × Fz))
  | mx (p : Addr) {ρ : Type} (R : Row ρ) (x : ρ)
  | rg (R R' : Hp) (n : Bool) (c : Nat) {α : Type} (A : Ty2 α) (x : α)
def Sl.own : Sl → Bool
  | .ml _ _ => true
  | .md _ _ => true
  | .ob _ _ _ => true
  | .mx _ _ _ => true
  | .rg _ _ _ _ _ _ => true
  | _ => false
/-- the addresses that a slot owns -/
def Sl.fp : Sl → Option V → Addr → Prop
  | .no, _, _ => False
  | .fz _ _, _, _ => False
  | .st, _, _ => False
  | .ml _ _, o, a => o = some (.ref a)
  | .md _ _, o, a => o = some (.ref a)
  | .ob _ _ _, o, a => o = some (.ref a)
  | .mx _ _ _, o, a => o = some (.ref a)
  | .rg _ R' _ _ _ _, _, a => R' a ≠ none
theorem fp_own {S : Sl} {o : Option V} {a : Addr} (h : S.fp o a) (hn : S.own = false) : False := by
  cases S with
  | no => exact h
  | fz A x => exact h
  | st => exact h
  | ml A xs => cases hn
  | md A xs => cases hn
  | ob p C fs => cases hn
  | mx p R x => cases hn
  | rg R R' n c A x => cases hn
/-- a slot that owns at most the object it holds -/
def Sl.adr : Sl → Bool
  | .rg _ _ _ _ _ _ => false
  | _ => true
theorem fp_adr {S : Sl} {p l : Addr} (h : S.fp (some (.ref p)) l) (hn : S.adr = true) : l = p := by
  cases S with
  | no => exact h.elim
  | fz A x => exact h.elim
  | st => exact h.elim
  | ml A xs => injection (show some (V.ref p) = some (V.ref l) from h) with h; injection h with h; exact h.symm
  | md A xs => injection (show some (V.ref p) = some (V.ref l) from h) with h; injection h with h; exact h.symm
  | ob p C fs => injection (show some (V.ref _) = some (V.ref l) from h) with h; injection h with h; exact h.symm
  | mx p R x => injection (show some (V.ref _) = some (V.ref l) from h) with h; injection h with h; exact h.symm
  | rg R R' n c A x => cases hn
/-- a value changed, but of the same kind; lists stay -/
structure Kd (R : Hp) (v v' : V) : Prop where
  int : ∀ i, v = .int i → ∃ j, v' = .int j
  str : ∀ i, v = .str i → ∃ j, v' = .str j
  lst : ∀ b vs, v = .ref b → R b = some (.lst vs) → v' = v
def SkV (c : Nat) (R : Hp) (vs vs' : List V) : Prop := (vs.length ≤ vs'.length ∧ vs'.length ≤ vs.length + c) ∧ ∀ (i : Nat) v, vs[i]? = some v → ∃ v', vs'[i]? = some v' ∧ Kd R v v'
structure Skel (c : Nat) (R R' : Hp) : Prop where
  dom : ∀ a, R a = none ↔ R' a = none
  lst : ∀ a vs, R a = some (.lst vs) → ∃ vs', R' a = some (.lst vs') ∧ SkV c R vs vs'
  only : ∀ a u, R a = some u → ∃ vs, u = .lst vs
theorem Kd.refl (R : Hp) (v : V) : Kd R v v := ⟨fun i h => ⟨i, h⟩, fun i h => ⟨i, h⟩, fun _ _ _ _ => rfl⟩
theorem Skel.refl (R : Hp) (h : ∀ a u, R a = some u → ∃ vs, u = .lst vs) : Skel 0 R R := ⟨fun _ => Iff.rfl, fun a vs h => ⟨vs, h, ⟨Nat.le_refl _, Nat.le_refl _⟩, fun i v e => ⟨v, e, Kd.refl _ _⟩⟩, h⟩
/-- the list v is as long as it was -/
def FixL (R R' : Hp) (v : V) : Prop := ∀ l vs vs', v = .ref l → R l = some (.lst vs) → R' l = some (.lst vs') → vs.length = vs'.length
theorem FixL.refl (R : Hp) (v : V) : FixL R R v := fun l vs vs' _ h h' => by rw [h] at h'; cases h'; rfl
structure Own (z : Zs) (H0 G H : Hp) (l : Addr) (o : HO) : Prop where
  g : G l = none
  z : z.at_ ≠ some l
  h0 : H0 l = none
  h : H l = some o
def SlOk (z : Zs) (H0 G H : Hp) (o : Option V) : Sl → Prop
  | .no => True
  | .fz A x => ∃ v, o = some v ∧ A.rep G v x
  | .ml A xs => ∃ l vs, o = some (.ref l) ∧ Own z H0 G H l (.lst vs) ∧ Paired (A.rep G) vs xs
  | .md A kvs => ∃ l ks, o = some (.ref l) ∧ Own z H0 G H l (.dK ks) ∧ Paired (kvR A G) ks kvs
  | .st => ∃ s, z.at_ = some s ∧ o = some (.ref s)
  | .ob p C fs => ∃ dx vs, o = some (.ref p) ∧ Own z H0 G H p (.ins C dx vs) ∧ FR G vs fs
  | .mx p R x => ∃ vs, o = some (.ref p) ∧ Own z H0 G H p (.lst vs) ∧ R.rep G vs x
  | .rg R R' n c A x => ∃ v, o = some v ∧ A.rep G R v x ∧ Skel c R R' ∧ (∀ a u, R' a = some u → Own z H0 G H a u) ∧ (n = true → FixL R R' v)
structure Ev (z : Zs) (G0 H0 G H : Hp) (σ : St) (Γ : List Sl) : Prop where
  wd : Wd z G H
  base : Stp z G0 H0 G H
  len : σ.length = Γ.length
  sl : ∀ (i : Nat) (S : Sl) (o : Option V), Γ[i]? = some S → σ[i]? = some o → SlOk z H0 G H o S
  ap : ∀ (i j : Nat) (S T : Sl) (o o' : Option V) (l : Addr), i ≠ j → Γ[i]? = some S → Γ[j]? = some T → σ[i]? = some o → σ[j]? = some o' → S.fp o l → T.fp o' l → False
section
variable {z : Zs} {G0 H0 G H G' H' : Hp} {σ : St} {Γ Γ' : List Sl} {o : Option V}
theorem Own.step {l : Addr} {u : HO} (h : Own z H0 G H l u) (s : Stp z G H G' H') : Own z H0 G' H' l u := ⟨s.n l u h.h h.g, h.z, h.h0, s.h l u h.z h.h⟩
theorem SlOk.step {S : Sl} (h : SlOk z H0 G H o S) (s : Stp z G H G' H') : SlOk z H0 G' H' o S := by
  cases S with
  | no => trivial
  | fz A x => obtain ⟨v, e, r⟩ := h; exact ⟨v, e, A.mono s.g r⟩
  | ml A xs => obtain ⟨l, vs, e, r, p⟩ := h; exact ⟨l, vs, e, r.step s, Paired.mono (fun _ _ => A.mono s.g) p⟩
  | md A xs => obtain ⟨l, vs, e, r, p⟩ := h; exact ⟨l, vs, e, r.step s, Paired.mono (fun _ _ q => ⟨q.1, A.mono s.g q.2⟩) p⟩
  | st => exact h
  | ob p C fs => obtain ⟨dx, vs, e, r, q⟩ := h; exact ⟨dx, vs, e, r.step s, FR.mono s.g q⟩
  | mx p R x => obtain ⟨vs, e, r, q⟩ := h; exact ⟨vs, e, r.step s, R.mono s.g q⟩
  | rg R R' n c A x => obtain ⟨v, e, r, k, q, f⟩ := h; exact ⟨v, e, A.mono s.g (Same.refl _) r, k, fun a u e => (q a u e).step s, f⟩
theorem Ev.step (E : Ev z G0 H0 G H σ Γ) (w : Wd z G' H') (s : Stp z G H G' H') : Ev z G0 H0 G' H' σ Γ :=
  ⟨w, E.base.trans s, E.len, fun i S o h1 h2 => (E.sl i S o h1 h2).step s, E.ap⟩
theorem get_set {α : Type _} {l : List α} {i : Nat} {x y : α} (h : (l.set i x)[i]? = some y) : x = y := by
  rw [List.getElem?_set_self'] at h
  cases q : l[i]? with
  | none => rw [q] at h; cases h
  | some _ => rw [q] at h; exact Option.some.inj h
/-- a slot takes what no other slot owns -/
theorem Ev.setOwn (E : Ev z G0 H0 G H σ Γ) (i : Nat) {S : Sl} {o : Option V} (hS : SlOk z H0 G H o S)
    (hp : ∀ (j : Nat) T o' l, i ≠ j → Γ[j]? = some T → σ[j]? = some o' → S.fp o l → T.fp o' l → False) : Ev z G0 H0 G H (σ.set i o) (Γ.set i S) := by
  refine ⟨E.wd, E.base, by rw [List.length_set, List.length_set]; exact E.len, fun j T o h1 h2 => ?_, fun j k T U o1 o2 l hjk h1 h2 h3 h4 h5 h6 => ?_⟩
  · by_cases hj : i = j
    · subst hj
      rw [← get_set h1, ← get_set h2]
      exact hS
    · rw [List.getElem?_set_ne hj] at h1 h2
      exact E.sl j T o h1 h2
  · by_cases hj : i = j
    · by_cases hk : i = k
      · exact hjk (hj.symm.trans hk)
      · subst hj
        rw [← get_set h1, ← get_set h3] at h5
        rw [List.getElem?_set_ne hk] at h2 h4
        exact hp k U o2 l hk h2 h4 h5 h6
    · rw [List.getElem?_set_ne hj] at h1 h3
      by_cases hk : i = k
      · subst hk
        rw [← get_set h2, ← get_set h4] at h6
        exact hp j T o1 l hj h1 h3 h6 h5
      · rw [List.getElem?_set_ne hk] at h2 h4
        exact E.ap j k T U o1 o2 l hjk h1 h2 h3 h4 h5 h6
/-- a slot forgotten or changed -/
theorem Ev.set (E : Ev z G0 H0 G H σ Γ) (i : Nat) {S : Sl} {v : V} (hS : SlOk z H0 G H (some v) S) (hn : S.own = false) : Ev z G0 H0 G H (σ.set i (some v)) (Γ.set i S) :=
  E.setOwn i hS fun j T o' l _ _ _ h _ => fp_own h hn
theorem Ev.fz (E : Ev z G0 H0 G H σ Γ) (i : Nat) {α : Type} {A : Ty α} {x : α} {v : V} (h : A.rep G v x) : Ev z G0 H0 G H (σ.set i (some v)) (Γ.set i (.fz A x)) := E.set i ⟨v, rfl, h⟩ rfl
theorem SlOk.tracked {S : Sl} {o : Option V} {p : Addr} (h : SlOk z H0 G H o S) (hs : S.fp o p) : ∃ u, Own z H0 G H p u := by
  cases S with
  | no => exact hs.elim
  | fz A x => exact hs.elim
  | ml A xs => obtain ⟨l, vs, e, r, q⟩ := h; cases e.symm.trans (show o = some (.ref p) from hs); exact ⟨_, r⟩
  | md A xs => obtain ⟨l, vs, e, r, q⟩ := h; cases e.symm.trans (show o = some (.ref p) from hs); exact ⟨_, r⟩
  | st => exact hs.elim
  | ob p C fs => obtain ⟨dx, vs, e, r, q⟩ := h; cases e.symm.trans (show o = some (.ref _) from hs); exact ⟨_, r⟩
  | mx p R x => obtain ⟨vs, e, r, q⟩ := h; cases e.symm.trans (show o = some (.ref _) from hs); exact ⟨_, r⟩
  | rg R R' n c A x =>
    obtain ⟨v, e, r, k, q, f⟩ := h
    cases qq : R' p with
    | none => exact absurd qq hs
    | some u => exact ⟨u, q p u qq⟩
/-- a new object at p goes into slot i as one's own -/
theorem Ev.newOwn (E : Ev z G0 H0 G H σ Γ) (i : Nat) {S : Sl} {p : Addr} {u : HO} (hp : H p = none) (hS : SlOk z H0 G (upd H p u) (some (.ref p)) S) (ha : S.adr = true := by rfl) : Ev z G0 H0 G (upd H p u) (σ.set i (some (.ref p))) (Γ.set i S) := by
  refine (E.step (E.wd.own hp) (Stp.own hp)).setOwn i hS fun j T o' l hj h1 h2 h3 h4 => ?_
  have e := fp_adr h3 ha
  subst e
  have q := E.sl j T _ h1 h2
  obtain ⟨u', o'⟩ := q.tracked h4
  rw [o'.h] at hp
  cases hp
/-- H0 does not hold what is new -/
theorem Ev.h0new (E : Ev z G0 H0 G H σ Γ) {p : Addr} (hp : H p = none) : H0 p = none := by
  cases q : H0 p with
  | none => rfl
  | some u =>
    obtain ⟨u', e⟩ := E.base.t p u q
    rw [hp] at e
    cases e
theorem Ev.znew (E : Ev z G0 H0 G H σ Γ) {p : Addr} (hp : H p = none) : z.at_ ≠ some p := fun q => by
  obtain ⟨_, u, e, _⟩ := E.wd.zk p q
  rw [hp] at e
  cases e
theorem Ev.ownNew (E : Ev z G0 H0 G H σ Γ) {p : Addr} {u : HO} (hp : H p = none) : Own z H0 G (upd H p u) p u := ⟨E.wd.gh.free hp, E.znew hp, E.h0new hp, upd_same⟩
/-- a slot that owns nothing of p stays when p changes -/
theorem SlOk.apart {T : Sl} {o : Option V} {p : Addr} {u' : HO} (q : SlOk z H0 G H o T) (nf : ¬ T.fp o p) : SlOk z H0 G (upd H p u') o T := by
  have mv : ∀ {l : Addr} {w : HO}, Own z H0 G H l w → l ≠ p → Own z H0 G (upd H p u') l w := fun {l w} r nl => ⟨r.g, r.z, r.h0, by rw [upd_ne nl]; exact r.h⟩
  cases T with
  | no => trivial
  | fz A x => exact q
  | st => exact q
  | ml A xs => obtain ⟨l, vs, e, r, y⟩ := q; exact ⟨l, vs, e, mv r fun ee => nf (by rw [← ee]; exact e), y⟩
  | md A xs => obtain ⟨l, vs, e, r, y⟩ := q; exact ⟨l, vs, e, mv r fun ee => nf (by rw [← ee]; exact e), y⟩
  | ob l C fs => obtain ⟨dx, vs, e, r, y⟩ := q; exact ⟨dx, vs, e, mv r fun ee => nf (by rw [← ee]; exact e), y⟩
  | mx l R x => obtain ⟨vs, e, r, y⟩ := q; exact ⟨vs, e, mv r fun ee => nf (by rw [← ee]; exact e), y⟩
  | rg R R' n c A x => obtain ⟨v, e, r, k, y, f⟩ := q; exact ⟨v, e, r, k, fun a u ha => mv (y a u ha) (fun ee => nf (by rw [← ee]; show R' a ≠ none; rw [ha]; intro z; cases z)), f⟩
/-- an own object of slot i changes -/
theorem Ev.mut (E : Ev z G0 H0 G H σ Γ) {i : Nat} {S S' : Sl} {o : Option V} {p : Addr} {u : HO} (hi : Γ[i]? = some S) (hσ : σ[i]? = some o) (hF : S.fp o p) (hp : Own z H0 G H p u) {u' : HO} (hS : SlOk z H0 G (upd H p u') o S') (hF' : ∀ l, S'.fp o l → S.fp o l := by exact fun _ h => h) :
    Ev z G0 H0 G (upd H p u') σ (Γ.set i S') := by
  have st : ∀ a o, z.at_ ≠ some a → H0 a = some o → (upd H p u') a = some o := fun a o hz h => by
    rw [upd_ne (ne_of_none h hp.h0)]
    exact E.base.h a o hz h
  refine ⟨E.wd.set hp.g hp.z, ⟨E.base.g, st, E.base.n, fun a o h => ?_⟩, by rw [List.length_set]; exact E.len, fun j T o' h1 h2 => ?_, fun j k T U o1 o2 l hjk h1 h2 h3 h4 h5 h6 => ?_⟩
  · obtain ⟨o', e⟩ := E.base.t a o h
    by_cases ha : a = p
    · subst ha; exact ⟨u', upd_same⟩
    · exact ⟨o', by rw [upd_ne ha]; exact e⟩
  · by_cases hj : i = j
    · subst hj
      rw [← get_set h1]
      rw [hσ] at h2
      cases h2
      exact hS
    · rw [List.getElem?_set_ne hj] at h1
      exact (E.sl j T o' h1 h2).apart fun hf => E.ap i j S T o o' p hj hi h1 hσ h2 hF hf
  · by_cases hj : i = j
    · by_cases hk : i = k
      · exact hjk (hj.symm.trans hk)
      · subst hj
        rw [← get_set h1] at h5
        rw [List.getElem?_set_ne hk] at h2
        rw [hσ] at h3
        cases h3
        exact E.ap i k S U o o2 l hk hi h2 hσ h4 (hF' l h5) h6
    · rw [List.getElem?_set_ne hj] at h1
      by_cases hk : i = k
      · subst hk
        rw [← get_set h2] at h6
        rw [hσ] at h4
        cases h4
        exact E.ap i j S T o o1 l hj hi h1 hσ h3 (hF' l h6) h5
      · rw [List.getElem?_set_ne hk] at h2
        exact E.ap j k T U o1 o2 l hjk h1 h2 h3 h4 h5 h6
/-- what is known of a slot by its place -/
theorem Ev.at_ (E : Ev z G0 H0 G H σ Γ) {i : Nat} {S : Sl} (h : Γ[i]? = some S) : ∃ o, σ[i]? = some o ∧ SlOk z H0 G H o S := by
  have hl : i < σ.length := by
    rw [E.len]
    exact (List.getElem?_eq_some_iff.mp h).1
  exact ⟨σ[i], List.getElem?_eq_getElem hl, E.sl i S _ h (List.getElem?_eq_getElem hl)⟩
/-- a slot that owns nothing of p stays when p is frozen -/
theorem SlOk.frozen {T : Sl} {o : Option V} {D : Hp} (q : SlOk z H0 G H o T) (sg : Same G (jn G D)) (nf : ∀ p, D p ≠ none → ¬ T.fp o p) : SlOk z H0 (jn G D) H o T := by
  have mv : ∀ {l : Addr} {w : HO}, Own z H0 G H l w → T.fp o l → Own z H0 (jn G D) H l w := fun {l w} r hf => ⟨by
    show jn G D l = none
    unfold jn
    cases e : D l with
    | none => exact r.g
    | some x => exact absurd hf (nf l (by rw [e]; intro z; cases z)), r.z, r.h0, r.h⟩
  cases T with
  | no => trivial
  | fz A x => obtain ⟨v, e, r⟩ := q; exact ⟨v, e, A.mono sg r⟩
  | st => exact q
  | ml A xs => obtain ⟨l, vs, e, r, y⟩ := q; exact ⟨l, vs, e, mv r e, Paired.mono (fun _ _ => A.mono sg) y⟩
  | md A xs => obtain ⟨l, vs, e, r, y⟩ := q; exact ⟨l, vs, e, mv r e, Paired.mono (fun _ _ w => ⟨w.1, A.mono sg w.2⟩) y⟩
  | ob l C fs => obtain ⟨dx, vs, e, r, y⟩ := q; exact ⟨dx, vs, e, mv r e, FR.mono sg y⟩
  | mx l R x => obtain ⟨vs, e, r, y⟩ := q; exact ⟨vs, e, mv r e, R.mono sg y⟩
  | rg R R' n c A x => obtain ⟨v, e, r, k, y, f⟩ := q; exact ⟨v, e, A.mono sg (Same.refl _) r, k, fun a u ha => mv (y a u ha) (by show R' a ≠ none; rw [ha]; intro z; cases z), f⟩
/-- objects of slot i are frozen -/
theorem Ev.freezeD (E : Ev z G0 H0 G H σ Γ) {i : Nat} {S S' : Sl} {o : Option V} {D : Hp} (hi : Γ[i]? = some S) (hσ : σ[i]? = some o) (hF : ∀ p, D p ≠ none → S.fp o p) (hp : ∀ p u, D p = some u → Own z H0 G H p u) (hn : S'.own = false) (hS : SlOk z H0 (jn G D) H o S') :
    Same G (jn G D) ∧ Ev z G0 H0 (jn G D) H σ (Γ.set i S') := by
  have at_ : ∀ {a u}, jn G D a = some u → D a = some u ∨ (D a = none ∧ G a = some u) := fun {a u} e => by
    unfold jn at e
    cases q : D a with
    | none => rw [q] at e; exact .inr ⟨rfl, e⟩
    | some w => rw [q] at e; exact .inl e
  have sg : Same G (jn G D) := fun a u e => by
    unfold jn
    cases q : D a with
    | none => exact e
    | some w =>
      have := (hp a w q).g
      rw [e] at this
      cases this
  refine ⟨sg, ⟨fun b u e => ?_, fun s es => ?_⟩, ⟨E.base.g.trans sg, E.base.h, fun a o h g => ?_, E.base.t⟩, by rw [List.length_set]; exact E.len, fun j T o' h1 h2 => ?_, fun j k T U o1 o2 l hjk h1 h2 h3 h4 h5 h6 => ?_⟩
  · rcases at_ e with e | ⟨_, e⟩
    · exact .inl (hp b u e).h
    · exact E.wd.gh b u e
  · obtain ⟨h1, u, h2, h3⟩ := E.wd.zk s es
    refine ⟨?_, u, h2, z.mono sg h3⟩
    unfold jn
    cases q : D s with
    | none => exact h1
    | some w => exact absurd es (hp s w q).z
  · have g' := E.base.n a o h g
    unfold jn
    cases q : D a with
    | none => exact g'
    | some w =>
      have := (hp a w q).h0
      rw [h] at this
      cases this
  · by_cases hj : i = j
    · subst hj
      rw [← get_set h1]
      rw [hσ] at h2
      cases h2
      exact hS
    · rw [List.getElem?_set_ne hj] at h1
      exact (E.sl j T o' h1 h2).frozen sg fun p hp' hf => E.ap i j S T o o' p hj hi h1 hσ h2 (hF p hp') hf
  · by_cases hj : i = j
    · subst hj
      rw [← get_set h1] at h5
      exact fp_own h5 hn
    · by_cases hk : i = k
      · subst hk
        rw [← get_set h2] at h6
        exact fp_own h6 hn
      · rw [List.getElem?_set_ne hj] at h1
        rw [List.getElem?_set_ne hk] at h2
        exact E.ap j k T U o1 o2 l hjk h1 h2 h3 h4 h5 h6
def one (p : Addr) (u : HO) : Hp := upd (fun _ => none) p u
theorem jn_one {p : Addr} {u : HO} : jn G (one p u) = upd G p u := by
  funext a
  unfold jn one
  by_cases h : a = p
  · subst h; rw [upd_same, upd_same]
  · rw [upd_ne h, upd_ne h]
/-- the own object of slot i is frozen -/
theorem Ev.freeze (E : Ev z G0 H0 G H σ Γ) {i : Nat} {S S' : Sl} {o : Option V} {p : Addr} {u : HO} (hi : Γ[i]? = some S) (hσ : σ[i]? = some o) (hF : S.fp o p) (hp : Own z H0 G H p u) (hn : S'.own = false) (hS : SlOk z H0 (upd G p u) H o S') :
    Ev z G0 H0 (upd G p u) H σ (Γ.set i S') := by
  have e0 : ∀ {q w}, one p u q = some w → q = p ∧ w = u := fun {q w} e => by
    unfold one at e
    by_cases h : q = p
    · subst h; rw [upd_same] at e; exact ⟨rfl, (Option.some.inj e).symm⟩
    · rw [upd_ne h] at e; cases e
  rw [← jn_one] at hS ⊢
  refine (E.freezeD hi hσ (fun q hq => ?_) (fun q w e => ?_) hn hS).2
  · cases e : one p u q with
    | none => exact absurd e hq
    | some w => rw [(e0 e).1]; exact hF
  · obtain ⟨h1, h2⟩ := e0 e
    rw [h1, h2]; exact hp
end

/-! ### conversions of the slots -/
/-- whoever has Γ has Γ' -/
def Cv (Γ Γ' : List Sl) : Prop := ∀ z G0 H0 G H σ, Ev z G0 H0 G H σ Γ → ∃ G', Same G G' ∧ Ev z G0 H0 G' H σ Γ'
theorem Cv.refl (Γ : List Sl) : Cv Γ Γ := fun _ _ _ G _ _ E => ⟨G, Same.refl _, E⟩
theorem Cv.trans {Γ Γ1 Γ2 : List Sl} (a : Cv Γ Γ1) (b : Cv Γ1 Γ2) : Cv Γ Γ2 := fun z G0 H0 G H σ E => by
  obtain ⟨G1, s1, E1⟩ := a z G0 H0 G H σ E
  obtain ⟨G2, s2, E2⟩ := b z G0 H0 G1 H σ E1
  exact ⟨G2, s1.trans s2, E2⟩
/-- slots forgotten -/
inductive Wk : List Sl → List Sl → Prop
  | nil : Wk [] []
  | no {S Γ Γ'} : Wk Γ Γ' → Wk (S :: Γ) (.no :: Γ')
  | same {S Γ Γ'} : Wk Γ Γ' → Wk (S :: Γ) (S :: Γ')
theorem Wk.len : ∀ {Γ Γ' : List Sl}, Wk Γ Γ' → Γ.length = Γ'.length
  | _, _, .nil => rfl
  | _, _, .no t => congrArg Nat.succ t.len
  | _, _, .same t => congrArg Nat.succ t.len
theorem Wk.at_ : ∀ {Γ Γ' : List Sl}, Wk Γ Γ' → ∀ {i : Nat} {S : Sl}, Γ'[i]? = some S → S = .no ∨ Γ[i]? = some S
  | _, _, .nil, i, S, h => by simp at h
  | _, _, .no t, 0, S, h => by
    have e : Sl.no = S := Option.some.inj h
    exact .inl e.symm
  | _, _, .same t, 0, S, h => .inr h
  | _, _, .no t, i + 1, S, h => t.at_ (i := i) h
  | _, _, .same t, i + 1, S, h => t.at_ (i := i) h
theorem Wk.cv {Γ Γ' : List Sl} (w : Wk Γ Γ') : Cv Γ Γ' := fun z G0 H0 G H σ E => by
  refine ⟨G, Same.refl _, E.wd, E.base, by rw [← w.len]; exact E.len, fun i S o h1 h2 => ?_, fun i j S T o1 o2 l hij h1 h2 h3 h4 h5 h6 => ?_⟩
  · rcases w.at_ h1 with e | e
    · subst e; trivial
    · exact E.sl i S o e h2
  · rcases w.at_ h1 with e | e1
    · subst e; exact h5.elim
    · rcases w.at_ h2 with e | e2
      · subst e; exact h6.elim
      · exact E.ap i j S T o1 o2 l hij e1 e2 h3 h4 h5 h6
theorem cv_ml {Γ : List Sl} (i : Nat) {α : Type} {A : Ty α} {xs : List α} (h : Γ[i]? = some (.ml A xs)) : Cv Γ (Γ.set i (.fz (tyL A) xs)) := fun z G0 H0 G H σ E => by
  obtain ⟨o, e, l, vs, rfl, r, p⟩ := E.at_ h
  have sg : Same G (upd G l (.lst vs)) := same_new r.g
  exact ⟨_, sg, E.freeze h e rfl r rfl ⟨_, rfl, l, vs, rfl, upd_same, Paired.mono (fun _ _ => A.mono sg) p⟩⟩
theorem cv_md {Γ : List Sl} (i : Nat) {α : Type} {A : Ty α} {xs : List (Str × α)} (h : Γ[i]? = some (.md A xs)) : Cv Γ (Γ.set i (.fz (tyD A) xs)) := fun z G0 H0 G H σ E => by
  obtain ⟨o, e, l, vs, rfl, r, p⟩ := E.at_ h
  have sg : Same G (upd G l (.dK vs)) := same_new r.g
  exact ⟨_, sg, E.freeze h e rfl r rfl ⟨_, rfl, l, vs, rfl, upd_same, Paired.mono (fun _ _ q => ⟨q.1, A.mono sg q.2⟩) p⟩⟩
theorem fz_split {G : Hp} : ∀ {vs : List (Str × V)} {fs : List (Str × Fz)}, FR G vs fs → vs = (fs.map (·.1)).zip (vs.map (·.2)) ∧ FV G (vs.map (·.2)) fs
  | _, _, .nil => ⟨rfl, .nil⟩
  | (a, b) :: vs, f :: fs, .cons r t => by
    obtain ⟨h1, h2⟩ := fz_split t
    refine ⟨?_, .cons r.2 h2⟩
    show (a, b) :: vs = (f.1, b) :: (fs.map (·.1)).zip (vs.map (·.2))
    rw [← h1, show a = f.1 from r.1]
theorem cv_ob {Γ : List Sl} (i : Nat) {p C : Addr} {fs : List (Str × Fz)} {ns : List Str} {ρ : Type} {R : Row ρ} {x : ρ} (h : Γ[i]? = some (.ob p C fs)) (hn : fs.map (·.1) = ns) (hR : ∀ G vs, FV G vs fs → R.rep G vs x) : Cv Γ (Γ.set i (.fz (tyO C ns R) x)) := fun z G0 H0 G H σ E => by
  obtain ⟨o, e, dx, vs, rfl, r, q⟩ := E.at_ h
  have sg : Same G (upd G p (.ins C dx vs)) := same_new r.g
  have q' : FR (upd G p (.ins C dx vs)) vs fs := FR.mono sg q
  obtain ⟨e1, e2⟩ := fz_split q'
  rw [hn] at e1
  exact ⟨_, sg, E.freeze h e rfl r rfl ⟨_, rfl, p, dx, vs.map (·.2), rfl, by rw [← e1]; exact upd_same, hR _ _ e2⟩⟩

/-- a region is frozen as it stands -/
theorem cv_rg {Γ : List Sl} (i : Nat) {α : Type} {A : Ty2 α} {R : Hp} {n : Bool} {c : Nat} {x : α} (h : Γ[i]? = some (.rg R R n c A x)) : Cv Γ (Γ.set i (.fz A.T x)) := fun z G0 H0 G H σ E => by
  obtain ⟨o, e, v, rfl, r, k, q, _⟩ := E.at_ h
  obtain ⟨sg, E'⟩ := E.freezeD (D := R) (S' := .fz A.T x) h e (fun p hp => hp) q rfl ⟨v, rfl, A.to (fun a u e => (q a u e).g) r⟩
  exact ⟨_, sg, E'⟩

/-! ### universal readings -/
section
variable (X : Cx)
def RE (e : Expr) : TE := fun σ H Q => ∃ te, PE X e te ∧ te σ H Q
def RT (e : Expr) : TT := fun σ H Q => ∃ t, PT X e t ∧ t σ H Q
def RA (es : List Expr) : TA := fun σ H Q => ∃ t, PA X es t ∧ t σ H Q
def RS (sts : List Stmt) : TS := fun D σ H => ∃ t, PSs X sts t ∧ t D σ H
def RW (e : Expr) : TT := fun σ H Q => ∃ t, PW X e t ∧ t σ H Q
end
section
variable {X : Cx}
theorem re {e : Expr} : PE X e (RE X e) := ⟨fun pins s σ H Q I ⟨_, hp, h⟩ => hp.run pins s σ H Q I h⟩
theorem rt {e : Expr} : PT X e (RT X e) := ⟨fun pins s σ H Q I ⟨_, hp, h⟩ => hp.run pins s σ H Q I h⟩
theorem ra {es : List Expr} : PA X es (RA X es) := ⟨fun pos pins s σ H Q I ⟨_, hp, h⟩ => hp.run pos pins s σ H Q I h⟩
theorem rs {sts : List Stmt} : PSs X sts (RS X sts) := ⟨fun pins s σ H D I ⟨_, hp, h⟩ => hp.run pins s σ H D I h⟩
theorem rw_ {e : Expr} : PW X e (RW X e) := ⟨fun whole pins s σ H Q I ⟨_, hp, h⟩ => hp.run whole pins s σ H Q I h⟩
end

/-! ### judgements -/
def XE (X : Cx) (z : Zs) (Γ : List Sl) (e : Expr) {α : Type} (A : Ty α) (w : (α → Prop) → Prop) : Prop :=
  ∀ (G0 H0 : Hp) (σ : St) (G H : Hp) (k : α → Prop) (Q : VK), Ev z G0 H0 G H σ Γ → w k → (∀ G' H' v y, Wd z G' H' → Stp z G H G' H' → A.rep G' v y → k y → Q v H') → RE X e σ H Q
def XT (X : Cx) (z : Zs) (Γ : List Sl) (e : Expr) (w : (Bool → Prop) → Prop) : Prop :=
  ∀ (G0 H0 : Hp) (σ : St) (G H : Hp) (k : Bool → Prop) (Q : Bool → Hp → Prop), Ev z G0 H0 G H σ Γ → w k → (∀ G' H' b, Wd z G' H' → Stp z G H G' H' → k b → Q b H') → RT X e σ H Q
def XW (X : Cx) (z : Zs) (Γ : List Sl) (e : Expr) (w : (Bool → Prop) → Prop) : Prop :=
  ∀ (G0 H0 : Hp) (σ : St) (G H : Hp) (k : Bool → Prop) (Q : Bool → Hp → Prop), Ev z G0 H0 G H σ Γ → w k → (∀ G' H' b, Wd z G' H' → Stp z G H G' H' → k b → Q b H') → RW X e σ H Q
def XA (X : Cx) (z : Zs) (Γ : List Sl) (es : List Expr) {ρ : Type} (R : Row ρ) (w : (ρ → Prop) → Prop) : Prop :=
  ∀ (G0 H0 : Hp) (σ : St) (G H : Hp) (k : ρ → Prop) (Q : List V → Hp → Prop), Ev z G0 H0 G H σ Γ → w k → (∀ G' H' vs y, Wd z G' H' → Stp z G H G' H' → R.rep G' vs y → k y → Q vs H') → RA X es σ H Q
/-- a list that may be one's own, read -/
structure SqZ (z : Zs) (H : Hp) (a : Addr) (u : HO) : Prop where
  z : z.at_ ≠ some a
  r : H a = some u
theorem SqZ.step {z : Zs} {G H G' H' : Hp} {a : Addr} {u : HO} (h : SqZ z H a u) (s : Stp z G H G' H') : SqZ z H' a u := ⟨h.z, s.h a _ h.z h.r⟩
structure DqZ (z : Zs) (H : Hp) (a : Addr) (u : HO) : Prop where
  z : z.at_ ≠ some a
  r : Rd H a u
theorem DqZ.step {z : Zs} {G H G' H' : Hp} {a : Addr} {u : HO} (h : DqZ z H a u) (s : Stp z G H G' H') : DqZ z H' a u := ⟨h.z, by
  rcases h.r with e | ⟨o, e⟩
  · exact .inl (s.h a _ h.z e)
  · exact .inr ⟨o, s.h a _ h.z e⟩⟩
def XL (X : Cx) (z : Zs) (Γ : List Sl) (e : Expr) {α : Type} (A : Ty α) (w : (List α → Prop) → Prop) : Prop :=
  ∀ (G0 H0 : Hp) (σ : St) (G H : Hp) (k : List α → Prop) (Q : VK), Ev z G0 H0 G H σ Γ → w k →
    (∀ G' H' a vs xs, Wd z G' H' → Stp z G H G' H' → SqZ z H' a (.lst vs) → Paired (A.rep G') vs xs → k xs → Q (.ref a) H') → RE X e σ H Q
/-- a dict with text keys, read -/
def XD (X : Cx) (z : Zs) (Γ : List Sl) (e : Expr) {α : Type} (A : Ty α) (w : (List (Str × α) → Prop) → Prop) : Prop :=
  ∀ (G0 H0 : Hp) (σ : St) (G H : Hp) (k : List (Str × α) → Prop) (Q : VK), Ev z G0 H0 G H σ Γ → w k →
    (∀ G' H' a ks xs, Wd z G' H' → Stp z G H G' H' → DqZ z H' a (.dK ks) → Paired (kvR A G') ks xs → k xs → Q (.ref a) H') → RE X e σ H Q
/-- what is asked behind a block -/
structure Ct : Type 1 where
  n : List Sl → Prop
  b : List Sl → Prop := fun _ => False
  c : List Sl → Prop := fun _ => False
  {β : Type}
  B : Ty β
  r : List Sl → β → Prop
structure Meets (z : Zs) (G0 H0 : Hp) (D : Ends) (ct : Ct) : Prop where
  n : ∀ σ G H Γ, Ev z G0 H0 G H σ Γ → ct.n Γ → D.nx σ H
  b : ∀ σ G H Γ, Ev z G0 H0 G H σ Γ → ct.b Γ → D.bk σ H
  c : ∀ σ G H Γ, Ev z G0 H0 G H σ Γ → ct.c Γ → D.ct σ H
  r : ∀ σ G H Γ v y, Ev z G0 H0 G H σ Γ → ct.B.rep G v y → ct.r Γ y → D.rt v H
def XB (X : Cx) (z : Zs) (ct : Ct) (Γ : List Sl) (sts : List Stmt) (w : Prop) : Prop :=
  ∀ (G0 H0 : Hp) (D : Ends) (σ : St) (G H : Hp), Meets z G0 H0 D ct → Ev z G0 H0 G H σ Γ → w → RS X sts D σ H
/-- a shape of slots -/
def J {τ : Type} (ΓJ : τ → List Sl) (w : τ → Prop) : List Sl → Prop := fun Γ => ∃ s, Γ = ΓJ s ∧ w s
end Zk
/-! TL2: rules for expressions. -/
namespace Zk
open PySem PySem.Spec L2

section
variable {X : Cx} {z : Zs} {Γ : List Sl} {a b c e : Expr} {α β γ : Type} {A : Ty α} {B : Ty β} {C : Ty γ} {pos : Pos}
  {wa : (α → Prop) → Prop} {wb : (β → Prop) → Prop}

/-! ### names and constants -/
theorem xe_var (i : Nat) {x : Str} {y : α} (hΓ : Γ[i]? = some (.fz A y)) (hN : X.N[i]? = some x) (hv : Vis X.env.scope x) (hd : (x == ("__debug__" : Str)) = false := by decide) (hcd : (x == ("__classdict__" : Str)) = false := by decide) :
    XE X z Γ (.Name x pos) A (fun k => k y) := fun G0 H0 σ G H k Q E hw hk => by
  obtain ⟨o, e, v, rfl, r⟩ := E.at_ hΓ
  exact ⟨_, pe_var hN hv hd hcd, v, e, hk G H v y E.wd (Stp.refl _ _ _) r hw⟩
theorem xe_k {te : TE} {v : V} {y : α} (hp : PE X e te) (ht : ∀ σ H (Q : VK), Q v H → te σ H Q) (r : ∀ G, A.rep G v y) : XE X z Γ e A (fun k => k y) := fun G0 H0 σ G H k Q E hw hk =>
  ⟨_, hp, ht _ _ _ (hk G H v y E.wd (Stp.refl _ _ _) (r G) hw)⟩
theorem xe_int {i j} : XE X z Γ (.Constant (.int i) j pos) tyI (fun k => k i) := xe_k pe_int (fun _ _ _ q => q) fun _ => rfl
theorem xe_bl {i j} : XE X z Γ (.Constant (.bool i) j pos) tyB (fun k => k i) := xe_k pe_bl (fun _ _ _ q => q) fun _ => rfl
theorem xe_str {i j} (hi : sOk i = true := by decide +kernel) : XE X z Γ (.Constant (.str i) j pos) tyS (fun k => k i) := xe_k pe_str (fun _ _ _ q => q) fun _ => ⟨rfl, hi⟩
theorem xe_non {j} : XE X z Γ (.Constant .none j pos) tyU (fun k => k ()) := xe_k pe_non (fun _ _ _ q => q) fun _ => rfl
theorem xe_nonN {j} {A : Ty α} : XE X z Γ (.Constant .none j pos) (tyN A) (fun k => k none) := xe_k pe_non (fun _ _ _ q => q) fun _ => rfl
/-- what an expression gives, wrapped -/
theorem xe_as {y' : Type} {B : Ty β} (f : α → β) (hf : ∀ G v x, A.rep G v x → B.rep G v (f x)) (h : XE X z Γ e A wa) : XE X z Γ e B (fun k => wa fun x => k (f x)) := fun G0 H0 σ G H k Q E hw hk =>
  h G0 H0 σ G H (fun x => k (f x)) Q E hw fun G' H' v y W S r q => hk G' H' v (f y) W S (hf _ _ _ r) q
theorem xe_some (h : XE X z Γ e A wa) : XE X z Γ e (tyN A) (fun k => wa fun x => k (some x)) := xe_as (y' := Unit) some (fun _ _ _ r => r) h
theorem xe_imp {w w' : (α → Prop) → Prop} (h : XE X z Γ e A w) (f : ∀ k, w' k → w k) : XE X z Γ e A w' := fun G0 H0 σ G H k Q E hw hk => h G0 H0 σ G H k Q E (f k hw) hk

/-! ### two operands -/
def Op2 (z : Zs) (A : Ty α) (B : Ty β) (C : Ty γ) (r : R2) (w2 : α → β → (γ → Prop) → Prop) : Prop :=
  ∀ (G H : Hp) (v u : V) (x : α) (y : β) (k : γ → Prop) (Q : VK), Wd z G H → A.rep G v x → B.rep G u y → w2 x y k → (∀ G' H' v' y', Wd z G' H' → Stp z G H G' H' → C.rep G' v' y' → k y' → Q v' H') → r v u H Q
theorem two {r : R2} {w2 : α → β → (γ → Prop) → Prop} (ha : XE X z Γ a A wa) (hb : XE X z Γ b B wb) (hr : Op2 z A B C r w2) {G0 H0 : Hp} {σ : L2.St} {G H : Hp} {k : γ → Prop} {Q : VK} (E : Ev z G0 H0 G H σ Γ) (hw : wa fun x => wb fun y => w2 x y k)
    (hk : ∀ G' H' v y, Wd z G' H' → Stp z G H G' H' → C.rep G' v y → k y → Q v H') : tOp r (RE X a) (RE X b) σ H Q :=
  ha G0 H0 σ G H _ _ E hw fun G1 H1 v x W1 S1 r1 h1 => hb G0 H0 σ G1 H1 _ _ (E.step W1 S1) h1 fun G2 H2 u y W2 S2 r2 h2 =>
    hr G2 H2 v u x y k Q W2 (A.mono S2.g r1) r2 h2 fun G' H' v' y' W S r q => hk G' H' v' y' W ((S1.trans S2).trans S) r q
theorem xe_op {op : Operator} {r : R2} {w2 : α → β → (γ → Prop) → Prop} (ho : OpR X (binaryOp op) r) (hr : Op2 z A B C r w2) (ha : XE X z Γ a A wa) (hb : XE X z Γ b B wb) :
    XE X z Γ (.BinOp a op b pos) C (fun k => wa fun x => wb fun y => w2 x y k) := fun G0 H0 σ G H k Q E hw hk => ⟨_, pe_op ho re re, two ha hb hr E hw hk⟩
theorem xe_cmp {op : CmpOp} {r : R2} {w2 : α → β → (Bool → Prop) → Prop} (ho : OpR X (compareOp op) r) (hr : Op2 z A B tyB r w2) (hm : behindInMarks op b = false) (ha : XE X z Γ a A wa) (hb : XE X z Γ b B wb) :
    XE X z Γ (.Compare a [op] [b] pos) tyB (fun k => wa fun x => wb fun y => w2 x y k) := fun G0 H0 σ G H k Q E hw hk => ⟨_, pe_cmpR ho re re hm, two ha hb hr E hw hk⟩
theorem xt_cmp {op : CmpOp} {r : R2} {w2 : α → β → (Bool → Prop) → Prop} (ho : OpR X (compareOp op) r) (hr : Op2 z A B tyB r w2) (hm : behindInMarks op b = false) (ha : XE X z Γ a A wa) (hb : XE X z Γ b B wb) :
    XT X z Γ (.Compare a [op] [b] pos) (fun k => wa fun x => wb fun y => w2 x y k) := fun G0 H0 σ G H k Q E hw hk =>
  ⟨_, pt_cmpR ho re re hm, two ha hb hr (Q := fun x H' => ∃ k, x = .bl k ∧ Q k H') E hw fun G' H' v y W S r q => ⟨y, r, hk G' H' y W S q⟩⟩
/-- what leaves the heap -/
theorem op2_h {r : R2} {w2 : α → β → (γ → Prop) → Prop} (h : ∀ G H v u x y k (Q : VK), A.rep G v x → B.rep G u y → w2 x y k → (∀ v' y', C.rep G v' y' → k y' → Q v' H) → r v u H Q) : Op2 z A B C r w2 := fun G H v u x y k Q W r1 r2 hw hk =>
  h G H v u x y k Q r1 r2 hw fun v' y' r q => hk G H v' y' W (Stp.refl _ _ _) r q
theorem o2_I0 {g : Int → Int → Int} : Op2 z tyI tyI tyI (rI0 fun i j => .int (g i j)) (fun x y k => k (g x y)) := op2_h fun _ _ _ _ x y _ _ r1 r2 hw hk => ⟨x, y, r1, r2, hk _ _ rfl hw⟩
theorem o2_I {D : Int → Int → Prop} {g : Int → Int → Int} : Op2 z tyI tyI tyI (rI D fun i j => .int (g i j)) (fun x y k => D x y ∧ k (g x y)) := op2_h fun _ _ _ _ x y _ _ r1 r2 hw hk => ⟨x, y, r1, r2, hw.1, hk _ _ rfl hw.2⟩
theorem o2_B0 {g : Int → Int → Bool} : Op2 z tyI tyI tyB (rI0 fun i j => .bl (g i j)) (fun x y k => k (g x y)) := op2_h fun _ _ _ _ x y _ _ r1 r2 hw hk => ⟨x, y, r1, r2, hk _ _ rfl hw⟩
section
variable {wi wj : (Int → Prop) → Prop}
theorem xe_add (ha : XE X z Γ a tyI wi) (hb : XE X z Γ b tyI wj) : XE X z Γ (.BinOp a .Add b pos) tyI (fun k => wi fun x => wj fun y => k (x + y)) := xe_op op_add o2_I0 ha hb
theorem xe_sub (ha : XE X z Γ a tyI wi) (hb : XE X z Γ b tyI wj) : XE X z Γ (.BinOp a .Sub b pos) tyI (fun k => wi fun x => wj fun y => k (x - y)) := xe_op op_sub o2_I0 ha hb
theorem xe_mul (ha : XE X z Γ a tyI wi) (hb : XE X z Γ b tyI wj) : XE X z Γ (.BinOp a .Mult b pos) tyI (fun k => wi fun x => wj fun y => CMulW x y ∧ k (x * y)) := xe_op op_mulW o2_I ha hb
theorem xe_fdiv (ha : XE X z Γ a tyI wi) (hb : XE X z Γ b tyI wj) : XE X z Γ (.BinOp a .FloorDiv b pos) tyI (fun k => wi fun x => wj fun y => CDivW x y ∧ k (x / y)) := xe_op op_fdivW o2_I ha hb
theorem xe_mod (ha : XE X z Γ a tyI wi) (hb : XE X z Γ b tyI wj) : XE X z Γ (.BinOp a .Mod b pos) tyI (fun k => wi fun x => wj fun y => 0 < y ∧ k (x % y)) := xe_op op_mod o2_I ha hb
theorem xe_pow (ha : XE X z Γ a tyI wi) (hb : XE X z Γ b tyI wj) : XE X z Γ (.BinOp a .Pow b pos) tyI (fun k => wi fun x => wj fun y => CPow x y ∧ k (x ^ y.toNat)) := xe_op op_pow o2_I ha hb
theorem xe_neg (ha : XE X z Γ a tyI wi) : XE X z Γ (.UnaryOp .USub a pos) tyI (fun k => wi fun x => k (-x)) := fun G0 H0 σ G H k Q E hw hk =>
  ⟨_, pe_un un_neg re, ha G0 H0 σ G H _ _ E hw fun G1 H1 v x W1 S1 r1 h1 => ⟨x, r1, hk G1 H1 _ _ W1 S1 rfl h1⟩⟩
theorem xt_lt (ha : XE X z Γ a tyI wi) (hb : XE X z Γ b tyI wj) : XT X z Γ (.Compare a [.Lt] [b] pos) (fun k => wi fun x => wj fun y => k (decide (x < y))) := xt_cmp op_lt o2_B0 (nomark _) ha hb
theorem xt_le (ha : XE X z Γ a tyI wi) (hb : XE X z Γ b tyI wj) : XT X z Γ (.Compare a [.LtE] [b] pos) (fun k => wi fun x => wj fun y => k (decide (x ≤ y))) := xt_cmp op_le o2_B0 (nomark _) ha hb
theorem xt_gt (ha : XE X z Γ a tyI wi) (hb : XE X z Γ b tyI wj) : XT X z Γ (.Compare a [.Gt] [b] pos) (fun k => wi fun x => wj fun y => k (decide (y < x))) := xt_cmp op_gt o2_B0 (nomark _) ha hb
theorem xt_ge (ha : XE X z Γ a tyI wi) (hb : XE X z Γ b tyI wj) : XT X z Γ (.Compare a [.GtE] [b] pos) (fun k => wi fun x => wj fun y => k (decide (y ≤ x))) := xt_cmp op_ge o2_B0 (nomark _) ha hb
theorem xe_lt (ha : XE X z Γ a tyI wi) (hb : XE X z Γ b tyI wj) : XE X z Γ (.Compare a [.Lt] [b] pos) tyB (fun k => wi fun x => wj fun y => k (decide (x < y))) := xe_cmp op_lt o2_B0 (nomark _) ha hb
theorem xe_le (ha : XE X z Γ a tyI wi) (hb : XE X z Γ b tyI wj) : XE X z Γ (.Compare a [.LtE] [b] pos) tyB (fun k => wi fun x => wj fun y => k (decide (x ≤ y))) := xe_cmp op_le o2_B0 (nomark _) ha hb
theorem xe_gt (ha : XE X z Γ a tyI wi) (hb : XE X z Γ b tyI wj) : XE X z Γ (.Compare a [.Gt] [b] pos) tyB (fun k => wi fun x => wj fun y => k (decide (y < x))) := xe_cmp op_gt o2_B0 (nomark _) ha hb
theorem xe_ge (ha : XE X z Γ a tyI wi) (hb : XE X z Γ b tyI wj) : XE X z Γ (.Compare a [.GtE] [b] pos) tyB (fun k => wi fun x => wj fun y => k (decide (y ≤ x))) := xe_cmp op_ge o2_B0 (nomark _) ha hb
end
/-! ### == of scalars of one kind -/
class Scal (A : Ty α) where
  val : α → V
  inj : ∀ x y, val x = val y → x = y
  rep : ∀ {G v x}, A.rep G v x → v = val x
  sc : ∀ x y, scal (val x) (val y) = true
  fl : ∀ x, flatV (val x) = true
instance : Scal tyI := ⟨.int, fun _ _ h => V.int.inj h, fun h => h, fun _ _ => rfl, fun _ => rfl⟩
instance : Scal tyB := ⟨.bl, fun _ _ h => V.bl.inj h, fun h => h, fun _ _ => rfl, fun _ => rfl⟩
instance : Scal tyS := ⟨.str, fun _ _ h => V.str.inj h, fun h => h.1, fun _ _ => rfl, fun _ => rfl⟩
theorem Scal.dec {A : Ty α} [s : Scal A] [DecidableEq α] (x y : α) : decide (s.val x = s.val y) = decide (x = y) := by
  by_cases h : x = y
  · subst h; simp
  · rw [decide_eq_false h, decide_eq_false fun q => h (s.inj _ _ q)]
theorem o2_eq [s : Scal A] [DecidableEq α] : Op2 z A A tyB rEq (fun x y k => k (decide (x = y))) := op2_h fun _ _ _ _ x y _ _ r1 r2 hw hk => by
  rw [s.rep r1, s.rep r2]
  refine ⟨s.sc x y, ?_⟩
  rw [Scal.dec]
  exact hk _ _ rfl hw
theorem o2_ne [s : Scal A] [DecidableEq α] : Op2 z A A tyB rNe (fun x y k => k (!decide (x = y))) := op2_h fun _ _ _ _ x y _ _ r1 r2 hw hk => by
  rw [s.rep r1, s.rep r2]
  refine ⟨s.sc x y, ?_⟩
  rw [Scal.dec]
  exact hk _ _ rfl hw
theorem xt_eq [Scal A] [DecidableEq α] {wb : (α → Prop) → Prop} (ha : XE X z Γ a A wa) (hb : XE X z Γ b A wb) : XT X z Γ (.Compare a [.Eq] [b] pos) (fun k => wa fun x => wb fun y => k (decide (x = y))) := xt_cmp op_eq o2_eq (nomark _) ha hb
theorem xt_ne [Scal A] [DecidableEq α] {wb : (α → Prop) → Prop} (ha : XE X z Γ a A wa) (hb : XE X z Γ b A wb) : XT X z Γ (.Compare a [.NotEq] [b] pos) (fun k => wa fun x => wb fun y => k (!decide (x = y))) := xt_cmp op_ne o2_ne (nomark _) ha hb
theorem xe_eq [Scal A] [DecidableEq α] {wb : (α → Prop) → Prop} (ha : XE X z Γ a A wa) (hb : XE X z Γ b A wb) : XE X z Γ (.Compare a [.Eq] [b] pos) tyB (fun k => wa fun x => wb fun y => k (decide (x = y))) := xe_cmp op_eq o2_eq (nomark _) ha hb
theorem xe_ne [Scal A] [DecidableEq α] {wb : (α → Prop) → Prop} (ha : XE X z Γ a A wa) (hb : XE X z Γ b A wb) : XE X z Γ (.Compare a [.NotEq] [b] pos) tyB (fun k => wa fun x => wb fun y => k (!decide (x = y))) := xe_cmp op_ne o2_ne (nomark _) ha hb

/-! ### tests -/
variable {w1 w2 : (Bool → Prop) → Prop} {rest : List Expr}
theorem xt_val (h : XE X z Γ e tyB w1) (he : ∀ whole, isTrue e X.env whole = (do let v ← whole; standAt e.pos; holding [v] (truthy v)) := by intro _; rfl) : XT X z Γ e w1 := fun G0 H0 σ G H k Q E hw hk =>
  ⟨_, pt_val re he, h G0 H0 σ G H k _ E hw fun G1 H1 v x W1 S1 r1 h1 => ⟨x, r1, hk G1 H1 x W1 S1 h1⟩⟩
theorem xt_not (h : XT X z Γ e w1) : XT X z Γ (.UnaryOp .Not e pos) (fun k => w1 fun b => k (!b)) := fun G0 H0 σ G H k Q E hw hk =>
  ⟨_, pt_not rt, h G0 H0 σ G H _ _ E hw fun G1 H1 x W1 S1 h1 => hk G1 H1 (!x) W1 S1 h1⟩
theorem xe_not (h : XE X z Γ e tyB w1) : XE X z Γ (.UnaryOp .Not e pos) tyB (fun k => w1 fun b => k (!b)) := fun G0 H0 σ G H k Q E hw hk =>
  ⟨_, pe_not re, h G0 H0 σ G H _ _ E hw fun G1 H1 v x W1 S1 r1 h1 => ⟨x, r1, hk G1 H1 (.bl (!x)) (!x) W1 S1 rfl h1⟩⟩
theorem xw_and1 (h : XT X z Γ a w1) : XW X z Γ (.BoolOp .And [a] pos) w1 := fun G0 H0 σ G H k Q E hw hk => ⟨_, pw_and1 rt, h G0 H0 σ G H k Q E hw hk⟩
theorem xw_or1 (h : XT X z Γ a w1) : XW X z Γ (.BoolOp .Or [a] pos) w1 := fun G0 H0 σ G H k Q E hw hk => ⟨_, pw_or1 rt, h G0 H0 σ G H k Q E hw hk⟩
theorem xw_and (h : XT X z Γ a w1) (hr : XW X z Γ (.BoolOp .And (b :: rest) pos) w2) : XW X z Γ (.BoolOp .And (a :: b :: rest) pos) (fun k => w1 fun x => if x = true then w2 k else k false) := fun G0 H0 σ G H k Q E hw hk =>
  ⟨_, pw_and rt rw_, h G0 H0 σ G H _ _ E hw fun G1 H1 x W1 S1 h1 => by
    cases x with
    | true => exact hr G0 H0 σ G1 H1 k Q (E.step W1 S1) h1 fun G' H' b W S q => hk G' H' b W (S1.trans S) q
    | false => exact hk G1 H1 false W1 S1 h1⟩
theorem xw_or (h : XT X z Γ a w1) (hr : XW X z Γ (.BoolOp .Or (b :: rest) pos) w2) : XW X z Γ (.BoolOp .Or (a :: b :: rest) pos) (fun k => w1 fun x => if x = true then k true else w2 k) := fun G0 H0 σ G H k Q E hw hk =>
  ⟨_, pw_or rt rw_, h G0 H0 σ G H _ _ E hw fun G1 H1 x W1 S1 h1 => by
    cases x with
    | true => exact hk G1 H1 true W1 S1 h1
    | false => exact hr G0 H0 σ G1 H1 k Q (E.step W1 S1) h1 fun G' H' b W S q => hk G' H' b W (S1.trans S) q⟩
theorem xt_w (h : XW X z Γ e w1) : XT X z Γ e w1 := fun G0 H0 σ G H k Q E hw hk => ⟨_, PW.pt rw_, h G0 H0 σ G H k Q E hw hk⟩
theorem xe_one {op} (h : XE X z Γ a A wa) : XE X z Γ (.BoolOp op [a] pos) A wa := fun G0 H0 σ G H k Q E hw hk => ⟨_, pe_one re, h G0 H0 σ G H k Q E hw hk⟩
theorem xe_and (h : XE X z Γ a tyB w1) (hr : XE X z Γ (.BoolOp .And (b :: rest) pos) tyB w2) : XE X z Γ (.BoolOp .And (a :: b :: rest) pos) tyB (fun k => w1 fun x => if x = true then w2 k else k false) := fun G0 H0 σ G H k Q E hw hk =>
  ⟨_, pe_and re re, h G0 H0 σ G H _ _ E hw fun G1 H1 v x W1 S1 r1 h1 => ⟨x, r1, by
    cases x with
    | true => exact hr G0 H0 σ G1 H1 k Q (E.step W1 S1) h1 fun G' H' v b W S r q => hk G' H' v b W (S1.trans S) r q
    | false => exact hk G1 H1 _ false W1 S1 rfl h1⟩⟩
theorem xe_or (h : XE X z Γ a tyB w1) (hr : XE X z Γ (.BoolOp .Or (b :: rest) pos) tyB w2) : XE X z Γ (.BoolOp .Or (a :: b :: rest) pos) tyB (fun k => w1 fun x => if x = true then k true else w2 k) := fun G0 H0 σ G H k Q E hw hk =>
  ⟨_, pe_or re re, h G0 H0 σ G H _ _ E hw fun G1 H1 v x W1 S1 r1 h1 => ⟨x, r1, by
    cases x with
    | true => exact hk G1 H1 _ true W1 S1 rfl h1
    | false => exact hr G0 H0 σ G1 H1 k Q (E.step W1 S1) h1 fun G' H' v b W S r q => hk G' H' v b W (S1.trans S) r q⟩⟩
theorem xe_ifExp {wb : (α → Prop) → Prop} (hc : XT X z Γ c w1) (ha : XE X z Γ a A wa) (hb : XE X z Γ b A wb) : XE X z Γ (.IfExp c a b pos) A (fun k => w1 fun x => if x = true then wa k else wb k) := fun G0 H0 σ G H k Q E hw hk =>
  ⟨_, pe_ifExp rt re re, hc G0 H0 σ G H _ _ E hw fun G1 H1 x W1 S1 h1 => by
    cases x with
    | true => exact ha G0 H0 σ G1 H1 k Q (E.step W1 S1) h1 fun G' H' v b W S r q => hk G' H' v b W (S1.trans S) r q
    | false => exact hb G0 H0 σ G1 H1 k Q (E.step W1 S1) h1 fun G' H' v b W S r q => hk G' H' v b W (S1.trans S) r q⟩
theorem xt_imp {w w' : (Bool → Prop) → Prop} (h : XT X z Γ e w) (f : ∀ k, w' k → w k) : XT X z Γ e w' := fun G0 H0 σ G H k Q E hw hk => h G0 H0 σ G H k Q E (f k hw) hk
/-- x is None, x is not None, of a text or None and the like -/
class NonNone (A : Ty α) : Prop where
  nn : ∀ G v x, A.rep G v x → v ≠ .non
instance : NonNone tyI := ⟨fun _ _ _ h e => by rw [show _ = V.int _ from h] at e; cases e⟩
instance : NonNone tyB := ⟨fun _ _ _ h e => by rw [show _ = V.bl _ from h] at e; cases e⟩
instance : NonNone tyS := ⟨fun _ _ _ h e => by rw [show _ = V.str _ from h.1] at e; cases e⟩
instance : NonNone (tyL A) := ⟨fun _ _ _ ⟨_, _, h, _⟩ e => by rw [h] at e; cases e⟩
instance : NonNone (tyP A) := ⟨fun _ _ _ ⟨_, _, h, _⟩ e => by rw [h] at e; cases e⟩
instance {ρ : Type} {R : Row ρ} : NonNone (tyT R) := ⟨fun _ _ _ ⟨_, _, h, _⟩ e => by rw [h] at e; cases e⟩
instance {ρ : Type} {R : Row ρ} : NonNone (tyM R) := ⟨fun _ _ _ ⟨_, _, h, _⟩ e => by rw [h] at e; cases e⟩
theorem none_iff [n : NonNone A] {G : Hp} {v : V} {x : Option α} (h : (tyN A).rep G v x) : decide (v = .non) = x.isNone := by
  cases x with
  | none =>
    have e : v = .non := h
    rw [e]
    rfl
  | some y => exact decide_eq_false (n.nn G v y h)
theorem xt_isN [NonNone A] {wo : (Option α → Prop) → Prop} {j pos'} (h : XE X z Γ a (tyN A) wo) : XT X z Γ (.Compare a [.Is] [.Constant .none j pos'] pos) (fun k => wo fun x => k x.isNone) := fun G0 H0 σ G H k Q E hw hk =>
  ⟨_, pt_cmp (pc_isN re) (nobehind _ (by decide) (by decide)), h G0 H0 σ G H _ _ E hw fun G1 H1 v x W1 S1 r1 h1 => ⟨x.isNone, by rw [none_iff r1], hk G1 H1 _ W1 S1 h1⟩⟩
theorem xt_notN [NonNone A] {wo : (Option α → Prop) → Prop} {j pos'} (h : XE X z Γ a (tyN A) wo) : XT X z Γ (.Compare a [.IsNot] [.Constant .none j pos'] pos) (fun k => wo fun x => k (!x.isNone)) := fun G0 H0 σ G H k Q E hw hk =>
  ⟨_, pt_cmp (pc_notN re) (nobehind _ (by decide) (by decide)), h G0 H0 σ G H _ _ E hw fun G1 H1 v x W1 S1 r1 h1 => ⟨!x.isNone, by rw [none_iff r1], hk G1 H1 _ W1 S1 h1⟩⟩
theorem xe_isN [NonNone A] {wo : (Option α → Prop) → Prop} {j pos'} (h : XE X z Γ a (tyN A) wo) : XE X z Γ (.Compare a [.Is] [.Constant .none j pos'] pos) tyB (fun k => wo fun x => k x.isNone) := fun G0 H0 σ G H k Q E hw hk =>
  ⟨_, pe_cmp (pc_isN re) (nobehind _ (by decide) (by decide)), h G0 H0 σ G H _ _ E hw fun G1 H1 v x W1 S1 r1 h1 => hk G1 H1 _ x.isNone W1 S1 (by rw [none_iff r1]; exact rfl) h1⟩
theorem xe_notN [NonNone A] {wo : (Option α → Prop) → Prop} {j pos'} (h : XE X z Γ a (tyN A) wo) : XE X z Γ (.Compare a [.IsNot] [.Constant .none j pos'] pos) tyB (fun k => wo fun x => k (!x.isNone)) := fun G0 H0 σ G H k Q E hw hk =>
  ⟨_, pe_cmp (pc_notN re) (nobehind _ (by decide) (by decide)), h G0 H0 σ G H _ _ E hw fun G1 H1 v x W1 S1 r1 h1 => hk G1 H1 _ (!x.isNone) W1 S1 (by rw [none_iff r1]; exact rfl) h1⟩

/-! ### rows of arguments, tuples, lists -/
variable {ρ : Type} {R : Row ρ} {wr : (ρ → Prop) → Prop} {es : List Expr}
theorem xa_nil : XA X z Γ [] Row.nil (fun k => k ()) := fun G0 H0 σ G H k Q E hw hk => ⟨_, pa_nil, hk G H [] () E.wd (Stp.refl _ _ _) rfl hw⟩
theorem xa_one (h : XE X z Γ e A wa) (hs : starEach (e :: []) X.env = (false, eval e X.env) :: starEach [] X.env := by rfl) : XA X z Γ [e] (Row.one A) wa := fun G0 H0 σ G H k Q E hw hk =>
  ⟨_, pa_cons re pa_nil hs, h G0 H0 σ G H _ _ E hw fun G1 H1 v x W1 S1 r1 h1 => hk G1 H1 [v] x W1 S1 ⟨v, rfl, r1⟩ h1⟩
theorem xa_cons (h : XE X z Γ e A wa) (hr : XA X z Γ es R wr) (hs : starEach (e :: es) X.env = (false, eval e X.env) :: starEach es X.env := by rfl) : XA X z Γ (e :: es) (Row.cons A R) (fun k => wa fun x => wr fun y => k (x, y)) := fun G0 H0 σ G H k Q E hw hk =>
  ⟨_, pa_cons re ra hs, h G0 H0 σ G H _ _ E hw fun G1 H1 v x W1 S1 r1 h1 => hr G0 H0 σ G1 H1 _ _ (E.step W1 S1) h1 fun G2 H2 vs y W2 S2 r2 h2 =>
    hk G2 H2 (v :: vs) (x, y) W2 (S1.trans S2) ⟨v, vs, rfl, A.mono S2.g r1, r2⟩ h2⟩
theorem xe_tup {x1} (h : XA X z Γ es R wr) (hn : R.n ≤ sizeLine := by first | (show _ ≤ _; decide) | exact Nat.le_of_ble_eq_true rfl) : XE X z Γ (.Tuple es x1 pos) (tyT R) wr := fun G0 H0 σ G H k Q E hw hk =>
  ⟨_, pe_tup ra, h G0 H0 σ G H _ _ E hw fun G1 H1 vs x W1 S1 r1 h1 => ⟨by rw [R.len r1]; exact hn, fun p hp =>
    hk _ _ _ x (W1.new hp) (S1.trans (Stp.new W1.gh hp)) ⟨p, vs, rfl, upd_same, R.mono (same_new (W1.gh.free hp)) r1⟩ h1⟩⟩
theorem xe_mix (h : XA X z Γ es R wr) (hn : R.n ≤ sizeLine := by first | (show _ ≤ _; decide) | exact Nat.le_of_ble_eq_true rfl) : XE X z Γ (.List es pos) (tyM R) wr := fun G0 H0 σ G H k Q E hw hk =>
  ⟨_, pe_lst ra, h G0 H0 σ G H _ _ E hw fun G1 H1 vs x W1 S1 r1 h1 => ⟨by rw [R.len r1]; exact hn, fun p hp =>
    hk _ _ _ x (W1.new hp) (S1.trans (Stp.new W1.gh hp)) ⟨p, vs, rfl, upd_same, R.mono (same_new (W1.gh.free hp)) r1⟩ h1⟩⟩
/-- all of one kind -/
def Row.nils (A : Ty α) : Row (List α) := ⟨0, fun _ vs x => vs = [] ∧ x = [], fun _ h => h, fun h => by rw [h.1]; rfl⟩
def Row.conss (A : Ty α) (R : Row (List α)) : Row (List α) where
  n := R.n + 1
  rep := fun G vs x => ∃ v r y ys, vs = v :: r ∧ x = y :: ys ∧ A.rep G v y ∧ R.rep G r ys
  mono := fun s ⟨v, r, y, ys, e, e', h, q⟩ => ⟨v, r, y, ys, e, e', A.mono s h, R.mono s q⟩
  len := fun ⟨v, r, y, ys, e, _, _, q⟩ => by rw [e, List.length_cons, R.len q]
class Alike (A : Ty α) (R : Row (List α)) : Prop where
  to : ∀ {G vs x}, R.rep G vs x → Paired (A.rep G) vs x
instance : Alike A (Row.nils A) := ⟨fun ⟨h1, h2⟩ => by rw [h1, h2]; exact .nil⟩
instance {R : Row (List α)} [h : Alike A R] : Alike A (Row.conss A R) := ⟨fun ⟨v, r, y, ys, e, e', q, t⟩ => by rw [e, e']; exact .cons q (h.to t)⟩
variable {Rl : Row (List α)} {wl : (List α → Prop) → Prop}
theorem xa_nils : XA X z Γ [] (Row.nils A) (fun k => k []) := fun G0 H0 σ G H k Q E hw hk => ⟨_, pa_nil, hk G H [] [] E.wd (Stp.refl _ _ _) ⟨rfl, rfl⟩ hw⟩
theorem xa_conss (h : XE X z Γ e A wa) (hr : XA X z Γ es Rl wl) (hs : starEach (e :: es) X.env = (false, eval e X.env) :: starEach es X.env := by rfl) : XA X z Γ (e :: es) (Row.conss A Rl) (fun k => wa fun x => wl fun y => k (x :: y)) := fun G0 H0 σ G H k Q E hw hk =>
  ⟨_, pa_cons re ra hs, h G0 H0 σ G H _ _ E hw fun G1 H1 v x W1 S1 r1 h1 => hr G0 H0 σ G1 H1 _ _ (E.step W1 S1) h1 fun G2 H2 vs y W2 S2 r2 h2 =>
    hk G2 H2 (v :: vs) (x :: y) W2 (S1.trans S2) ⟨v, vs, x, y, rfl, rfl, A.mono S2.g r1, r2⟩ h2⟩
theorem xe_lst [Alike A Rl] (h : XA X z Γ es Rl wl) (hn : Rl.n ≤ sizeLine := by first | (show _ ≤ _; decide) | exact Nat.le_of_ble_eq_true rfl) : XE X z Γ (.List es pos) (tyL A) wl := fun G0 H0 σ G H k Q E hw hk =>
  ⟨_, pe_lst ra, h G0 H0 σ G H _ _ E hw fun G1 H1 vs x W1 S1 r1 h1 => ⟨by rw [Rl.len r1]; exact hn, fun p hp =>
    hk _ _ _ x (W1.new hp) (S1.trans (Stp.new W1.gh hp)) ⟨p, vs, rfl, upd_same, Alike.to (Rl.mono (same_new (W1.gh.free hp)) r1)⟩ h1⟩⟩
theorem xe_tups {x1} [Alike A Rl] (h : XA X z Γ es Rl wl) (hn : Rl.n ≤ sizeLine := by first | (show _ ≤ _; decide) | exact Nat.le_of_ble_eq_true rfl) : XE X z Γ (.Tuple es x1 pos) (tyP A) wl := fun G0 H0 σ G H k Q E hw hk =>
  ⟨_, pe_tup ra, h G0 H0 σ G H _ _ E hw fun G1 H1 vs x W1 S1 r1 h1 => ⟨by rw [Rl.len r1]; exact hn, fun p hp =>
    hk _ _ _ x (W1.new hp) (S1.trans (Stp.new W1.gh hp)) ⟨p, vs, rfl, upd_same, Alike.to (Rl.mono (same_new (W1.gh.free hp)) r1)⟩ h1⟩⟩
end
end Zk
/-! TL3: sequences, texts, dicts read; calls; fields. -/
namespace Zk
open PySem PySem.Spec L2

theorem Paired.at_ {α β : Type} {F : α → β → Prop} : ∀ {l : List α} {m : List β} {i : Nat} {y : β}, Paired F l m → m[i]? = some y → ∃ x, l[i]? = some x ∧ F x y
  | _, _, i, y, .nil, h => by simp at h
  | _, _, 0, y, .cons r _, h => by
    have e := Option.some.inj (show some _ = some y from h)
    subst e
    exact ⟨_, rfl, r⟩
  | _, _, i + 1, y, .cons _ t, h => Paired.at_ (i := i) t h
theorem Paired.at' {α β : Type} {F : α → β → Prop} : ∀ {l : List α} {m : List β} {i : Nat} {x : α}, Paired F l m → l[i]? = some x → ∃ y, m[i]? = some y ∧ F x y
  | _, _, i, y, .nil, h => by simp at h
  | _, _, 0, y, .cons r _, h => by
    have e := Option.some.inj (show some _ = some y from h)
    subst e
    exact ⟨_, rfl, r⟩
  | _, _, i + 1, y, .cons _ t, h => Paired.at' (i := i) t h
theorem Paired.atI {α β : Type} {F : α → β → Prop} {l : List α} {m : List β} {i : Int} {y : β} (h : Paired F l m) (e : atI m i = some y) : ∃ x, atI l i = some x ∧ F x y := by
  unfold L2.atI at e ⊢
  rw [h.length]
  cases q : ixN m.length i with
  | none => rw [q] at e; cases e
  | some j =>
    rw [q] at e
    exact Paired.at_ h e
theorem Paired.drop {α β : Type} {F : α → β → Prop} : ∀ {l : List α} {m : List β} (n : Nat), Paired F l m → Paired F (l.drop n) (m.drop n)
  | _, _, 0, r => r
  | _, _, _ + 1, .nil => .nil
  | _, _, n + 1, .cons _ t => Paired.drop n t
theorem Paired.take {α β : Type} {F : α → β → Prop} : ∀ {l : List α} {m : List β} (n : Nat), Paired F l m → Paired F (l.take n) (m.take n)
  | _, _, 0, _ => .nil
  | _, _, _ + 1, .nil => .nil
  | _, _, n + 1, .cons r t => .cons r (Paired.take n t)
theorem Paired.app {α β : Type} {F : α → β → Prop} : ∀ {l l' : List α} {m m' : List β}, Paired F l m → Paired F l' m' → Paired F (l ++ l') (m ++ m')
  | _, _, _, _, .nil, s => s
  | _, _, _, _, .cons r t, s => .cons r (Paired.app t s)
theorem Paired.rev {α β : Type} {F : α → β → Prop} : ∀ {l : List α} {m : List β}, Paired F l m → Paired F l.reverse m.reverse
  | _, _, .nil => .nil
  | _, _, .cons r t => by rw [List.reverse_cons, List.reverse_cons]; exact Paired.app (Paired.rev t) (.cons r .nil)
theorem paired_ints : ∀ {vs : List V} {xs : List Int} {G : Hp}, Paired (tyI.rep G) vs xs → vs = xs.map V.int
  | _, _, _, .nil => rfl
  | _, _, _, .cons r t => by rw [show _ = V.int _ from r, paired_ints t]; rfl
theorem paired_bls : ∀ {vs : List V} {xs : List Bool} {G : Hp}, Paired (tyB.rep G) vs xs → vs = xs.map V.bl
  | _, _, _, .nil => rfl
  | _, _, _, .cons r t => by rw [show _ = V.bl _ from r, paired_bls t]; rfl
theorem paired_strs : ∀ {vs : List V} {xs : List Str} {G : Hp}, Paired (tyS.rep G) vs xs → vs = xs.map V.str
  | _, _, _, .nil => rfl
  | _, _, _, .cons r t => by rw [show _ = V.str _ from r.1, paired_strs t]; rfl
theorem paired_sok : ∀ {vs : List V} {xs : List Str} {G : Hp}, Paired (tyS.rep G) vs xs → ∀ x ∈ xs, sOk x = true
  | _, _, _, .nil => fun _ h => by cases h
  | _, _, _, .cons r t => fun x h => (List.mem_cons.mp h).elim (fun e => e ▸ r.2) (paired_sok t x)
theorem pair_ints : ∀ (xs : List Int) (G : Hp), Paired (tyI.rep G) (xs.map V.int) xs
  | [], _ => .nil
  | _ :: t, G => .cons rfl (pair_ints t G)
theorem pair_strs : ∀ (xs : List Str) (G : Hp), (∀ x ∈ xs, sOk x = true) → Paired (tyS.rep G) (xs.map V.str) xs
  | [], _, _ => .nil
  | x :: t, G, h => .cons ⟨rfl, h x List.mem_cons_self⟩ (pair_strs t G fun y hy => h y (List.mem_cons_of_mem _ hy))
/-- xs[lo:hi] -/
def cutA {α : Type} (xs : List α) (lo hi : Option Int) : List α := (xs.drop (HT.sIx xs.length 0 lo)).take (HT.sIx xs.length xs.length hi - HT.sIx xs.length 0 lo)
theorem Paired.cut {β : Type} {F : V → β → Prop} {l : List V} {m : List β} (h : Paired F l m) (lo hi : Option Int) : Paired F (cutV l lo hi) (cutA m lo hi) := by
  unfold cutV cutA
  rw [h.length]
  exact Paired.take _ (Paired.drop _ h)
theorem Wd.nz {z : Zs} {G H : Hp} (w : Wd z G H) {a : Addr} {u : HO} (h : G a = some u) : z.at_ ≠ some a := fun e => by
  rw [(w.zk a e).1] at h
  cases h
theorem Wd.lst {z : Zs} {G H : Hp} (w : Wd z G H) {a : Addr} {u : HO} (h : G a = some u) (hu : ∀ kvs, u ≠ .dK kvs) : SqZ z H a u := by
  refine ⟨w.nz h, ?_⟩
  rcases w.gh a u h with e | ⟨_, kvs, e, _⟩
  · exact e
  · exact absurd e (hu kvs)
theorem Wd.dk {z : Zs} {G H : Hp} (w : Wd z G H) {a : Addr} {kvs : List (Key × V)} (h : G a = some (.dK kvs)) : DqZ z H a (.dK kvs) := by
  refine ⟨w.nz h, ?_⟩
  rcases w.gh a _ h with e | ⟨o, k, e, e2⟩
  · exact .inl e
  · cases e
    exact .inr ⟨o, e2⟩

section
variable {X : Cx} {z : Zs} {Γ : List Sl} {a b c e : Expr} {α β γ : Type} {A : Ty α} {B : Ty β} {C : Ty γ} {pos p : Pos}
  {wa : (α → Prop) → Prop} {wb : (β → Prop) → Prop} {wl wl2 : (List α → Prop) → Prop} {wi wj : (Int → Prop) → Prop} {ws wt : (Str → Prop) → Prop} {wd : (List (Str × α) → Prop) → Prop}

/-! ### lists read -/
theorem xl_of (h : XE X z Γ e (tyL A) wl) : XL X z Γ e A wl := fun G0 H0 σ G H k Q E hw hk =>
  h G0 H0 σ G H k Q E hw fun G1 H1 v xs W1 S1 ⟨p, vs, ev, hp, r⟩ q => by
    subst ev
    exact hk G1 H1 p vs xs W1 S1 (W1.lst hp (fun _ => by intro e; cases e)) r q
theorem xl_own (i : Nat) {x : Str} {xs : List α} (hΓ : Γ[i]? = some (.ml A xs)) (hN : X.N[i]? = some x) (hv : Vis X.env.scope x) (hd : (x == ("__debug__" : Str)) = false := by decide) (hcd : (x == ("__classdict__" : Str)) = false := by decide) :
    XL X z Γ (.Name x pos) A (fun k => k xs) := fun G0 H0 σ G H k Q E hw hk => by
  obtain ⟨o, e, l, vs, rfl, r, q⟩ := E.at_ hΓ
  exact ⟨_, pe_var hN hv hd hcd, _, e, hk G H l vs xs E.wd (Stp.refl _ _ _) ⟨r.z, r.h⟩ q hw⟩
theorem xd_of (h : XE X z Γ e (tyD A) wd) : XD X z Γ e A wd := fun G0 H0 σ G H k Q E hw hk =>
  h G0 H0 σ G H k Q E hw fun G1 H1 v xs W1 S1 ⟨p, vs, ev, hp, r⟩ q => by
    subst ev
    exact hk G1 H1 p vs xs W1 S1 (W1.dk hp) r q
theorem xd_own (i : Nat) {x : Str} {xs : List (Str × α)} (hΓ : Γ[i]? = some (.md A xs)) (hN : X.N[i]? = some x) (hv : Vis X.env.scope x) (hd : (x == ("__debug__" : Str)) = false := by decide) (hcd : (x == ("__classdict__" : Str)) = false := by decide) :
    XD X z Γ (.Name x pos) A (fun k => k xs) := fun G0 H0 σ G H k Q E hw hk => by
  obtain ⟨o, e, l, vs, rfl, r, q⟩ := E.at_ hΓ
  exact ⟨_, pe_var hN hv hd hcd, _, e, hk G H l vs xs E.wd (Stp.refl _ _ _) ⟨r.z, .inl r.h⟩ q hw⟩
/-! ### len -/
theorem xe_len (hm : X.mg "len" = none) (h : XL X z Γ a A wl) (hg : Gl X "len" := by rfl) (hs : starEach (a :: []) X.env = (false, eval a X.env) :: starEach [] X.env := by rfl) :
    XE X z Γ (.Call (.Name "len" p) [a] [] pos) tyI (fun k => wl fun xs => k (xs.length : Int)) := fun G0 H0 σ G H k Q E hw hk =>
  ⟨_, pe_callB call_len_seq hg hm PySem.boot_len (pa_cons re pa_nil hs) (by decide) (by decide) hs rfl, h G0 H0 σ G H _ _ E hw fun G1 H1 q vs xs W1 S1 sq r h1 =>
    ⟨q, vs, rfl, .inl (SqL.of sq.r), hk G1 H1 _ _ W1 S1 (by rw [r.length]; rfl) h1⟩⟩
theorem xe_lenP (hm : X.mg "len" = none) (h : XE X z Γ a (tyP A) wl) (hg : Gl X "len" := by rfl) (hs : starEach (a :: []) X.env = (false, eval a X.env) :: starEach [] X.env := by rfl) :
    XE X z Γ (.Call (.Name "len" p) [a] [] pos) tyI (fun k => wl fun xs => k (xs.length : Int)) := fun G0 H0 σ G H k Q E hw hk =>
  ⟨_, pe_callB call_len_seq hg hm PySem.boot_len (pa_cons re pa_nil hs) (by decide) (by decide) hs rfl, h G0 H0 σ G H _ _ E hw fun G1 H1 v xs W1 S1 ⟨q, vs, ev, hq, r⟩ h1 => by
    subst ev
    exact ⟨q, vs, rfl, .inr (SqT.of (W1.lst hq (fun _ => by intro e; cases e)).r), hk G1 H1 _ _ W1 S1 (by rw [r.length]; rfl) h1⟩⟩
theorem xe_lenS (hm : X.mg "len" = none) (h : XE X z Γ a tyS ws) (hg : Gl X "len" := by rfl) (hs : starEach (a :: []) X.env = (false, eval a X.env) :: starEach [] X.env := by rfl) :
    XE X z Γ (.Call (.Name "len" p) [a] [] pos) tyI (fun k => ws fun s => s.length ≤ sizeLine ∧ k (s.length : Int)) := fun G0 H0 σ G H k Q E hw hk =>
  ⟨_, pe_callB call_len hg hm PySem.boot_len (pa_cons re pa_nil hs) (by decide) (by decide) hs rfl, h G0 H0 σ G H _ _ E hw fun G1 H1 v s W1 S1 r h1 =>
    ⟨v, s.length, rfl, by rw [show v = V.str s from r.1]; exact ⟨h1.1, rfl⟩, hk G1 H1 _ _ W1 S1 rfl h1.2⟩⟩
theorem xe_lenD (hm : X.mg "len" = none) (h : XE X z Γ a (tyD A) wd) (hg : Gl X "len" := by rfl) (hs : starEach (a :: []) X.env = (false, eval a X.env) :: starEach [] X.env := by rfl)
    (hc : CallR X (.builtin "len") (fun xs H Q => ∃ d kvs, xs = [.ref d] ∧ Rd H d (.dK kvs) ∧ Q (.int kvs.length) H)) :
    XE X z Γ (.Call (.Name "len" p) [a] [] pos) tyI (fun k => wd fun xs => k (xs.length : Int)) := fun G0 H0 σ G H k Q E hw hk =>
  ⟨_, pe_callB hc hg hm PySem.boot_len (pa_cons re pa_nil hs) (by decide) (by decide) hs rfl, h G0 H0 σ G H _ _ E hw fun G1 H1 v xs W1 S1 ⟨q, vs, ev, hq, r⟩ h1 => by
    subst ev
    exact ⟨q, vs, rfl, (W1.dk hq).r, hk G1 H1 _ _ W1 S1 (by rw [r.length]; rfl) h1⟩⟩
/-! ### items -/
theorem xe_ix (h : XL X z Γ a A wl) (hi : XE X z Γ b tyI wi) (hs : PlainIx b) : XE X z Γ (.Subscript a b pos) A (fun k => wl fun xs => wi fun i => ∃ y, atI xs i = some y ∧ k y) := fun G0 H0 σ G H k Q E hw hk =>
  ⟨_, pe_ix ix_list re re hs, h G0 H0 σ G H _ _ E hw fun G1 H1 q vs xs W1 S1 sq r h1 => hi G0 H0 σ G1 H1 _ _ (E.step W1 S1) h1 fun G2 H2 u i W2 S2 r2 ⟨y, ey, h2⟩ => by
    obtain ⟨v, ev, rv⟩ := Paired.atI (Paired.mono (fun _ _ => A.mono S2.g) r) ey
    exact ⟨q, vs, i, v, rfl, r2, SqL.of (sq.step S2).r, ev, hk G2 H2 v y W2 (S1.trans S2) rv h2⟩⟩
theorem xe_ixP (h : XE X z Γ a (tyP A) wl) (hi : XE X z Γ b tyI wi) (hs : PlainIx b) : XE X z Γ (.Subscript a b pos) A (fun k => wl fun xs => wi fun i => ∃ y, atI xs i = some y ∧ k y) := fun G0 H0 σ G H k Q E hw hk =>
  ⟨_, pe_ix ix_tup re re hs, h G0 H0 σ G H _ _ E hw fun G1 H1 q xs W1 S1 ⟨p, vs, ev, hp, r⟩ h1 => hi G0 H0 σ G1 H1 _ _ (E.step W1 S1) h1 fun G2 H2 u i W2 S2 r2 ⟨y, ey, h2⟩ => by
    obtain ⟨v, ev', rv⟩ := Paired.atI (Paired.mono (fun _ _ => A.mono S2.g) r) ey
    exact ⟨p, vs, i, v, ev, r2, SqT.of ((W1.lst hp (fun _ => by intro e; cases e)).step S2).r, ev', hk G2 H2 v y W2 (S1.trans S2) rv h2⟩⟩
theorem xe_ixS (h : XE X z Γ a tyS ws) (hi : XE X z Γ b tyI wi) (hs : PlainIx b) : XE X z Γ (.Subscript a b pos) tyS (fun k => ws fun s => wi fun i => s.length ≤ sizeLine ∧ ∃ c, atI s.cps.toList i = some c ∧ k ⟨#[c]⟩) := fun G0 H0 σ G H k Q E hw hk =>
  ⟨_, pe_ix ix_str re re hs, h G0 H0 σ G H _ _ E hw fun G1 H1 q s W1 S1 r h1 => hi G0 H0 σ G1 H1 _ _ (E.step W1 S1) h1 fun G2 H2 u i W2 S2 r2 ⟨hl, c, ec, h2⟩ =>
    ⟨s, i, c, r.1, r2, hl, ec, hk G2 H2 _ _ W2 (S1.trans S2) ⟨rfl, sok_one r.2 (by
      unfold L2.atI at ec
      cases q : ixN s.cps.toList.length i with
      | none => rw [q] at ec; cases ec
      | some j => rw [q] at ec; exact List.mem_of_getElem? ec)⟩ h2⟩⟩
/-- the i-th of a row -/
def RowAt {ρ : Type} (R : Row ρ) (i : Nat) (A : Ty α) (f : ρ → α) : Prop := ∀ G vs x, R.rep G vs x → ∃ v, vs[i]? = some v ∧ A.rep G v (f x)
theorem ra_one : RowAt (Row.one A) 0 A id := fun _ _ _ ⟨v, e, r⟩ => ⟨v, by rw [e]; rfl, r⟩
theorem ra_zero {ρ : Type} {R : Row ρ} : RowAt (Row.cons A R) 0 A Prod.fst := fun _ _ _ ⟨v, r, e, h, _⟩ => ⟨v, by rw [e]; rfl, h⟩
theorem ra_succ {ρ : Type} {R : Row ρ} {i : Nat} {f : ρ → α} (h : RowAt R i A f) : RowAt (Row.cons B R) (i + 1) A (fun x => f x.2) := fun G _ _ ⟨v, r, e, _, q⟩ => by
  obtain ⟨u, h1, h2⟩ := h G _ _ q
  exact ⟨u, by rw [e]; exact h1, h2⟩
section
variable {ρ : Type} {R : Row ρ} {wr : (ρ → Prop) → Prop} {f : ρ → α} {i : Nat} {es : List Expr}
theorem xe_itT (h : XE X z Γ a (tyT R) wr) (hr : RowAt R i A f) (hi : XE X z Γ b tyI (fun k => k (i : Int))) (hs : PlainIx b) : XE X z Γ (.Subscript a b pos) A (fun k => wr fun x => k (f x)) := fun G0 H0 σ G H k Q E hw hk =>
  ⟨_, pe_ix ix_tup re re hs, h G0 H0 σ G H _ _ E hw fun G1 H1 q x W1 S1 ⟨p, vs, ev, hp, r⟩ h1 => hi G0 H0 σ G1 H1 (fun y => y = (i : Int)) _ (E.step W1 S1) rfl fun G2 H2 u j W2 S2 r2 ej => by
    obtain ⟨v, e, rv⟩ := hr G1 vs x r
    subst ej
    exact ⟨p, vs, i, v, ev, r2, SqT.of ((W1.lst hp (fun _ => by intro e; cases e)).step S2).r, atI_nat e, hk G2 H2 v _ W2 (S1.trans S2) (A.mono S2.g rv) h1⟩⟩
theorem xe_itM (h : XE X z Γ a (tyM R) wr) (hr : RowAt R i A f) (hi : XE X z Γ b tyI (fun k => k (i : Int))) (hs : PlainIx b) : XE X z Γ (.Subscript a b pos) A (fun k => wr fun x => k (f x)) := fun G0 H0 σ G H k Q E hw hk =>
  ⟨_, pe_ix ix_list re re hs, h G0 H0 σ G H _ _ E hw fun G1 H1 q x W1 S1 ⟨p, vs, ev, hp, r⟩ h1 => hi G0 H0 σ G1 H1 (fun y => y = (i : Int)) _ (E.step W1 S1) rfl fun G2 H2 u j W2 S2 r2 ej => by
    obtain ⟨v, e, rv⟩ := hr G1 vs x r
    subst ej
    exact ⟨p, vs, i, v, ev, r2, SqL.of ((W1.lst hp (fun _ => by intro e; cases e)).step S2).r, atI_nat e, hk G2 H2 v _ W2 (S1.trans S2) (A.mono S2.g rv) h1⟩⟩
end
/-! ### slices -/
def XO (X : Cx) (z : Zs) (Γ : List Sl) (e : Option Expr) (w : (Option Int → Prop) → Prop) : Prop :=
  ∀ (G0 H0 : Hp) (σ : L2.St) (G H : Hp) (k : Option Int → Prop), Ev z G0 H0 G H σ Γ → w k → ∃ t, PO X e t ∧ ∀ Q, (∀ G' H' y, Wd z G' H' → Stp z G H G' H' → k y → Q y H') → t σ H Q
variable {lo hi : Option Expr} {wlo whi : (Option Int → Prop) → Prop} {p2 : Pos}
theorem xo_none : XO X z Γ none (fun k => k none) := fun G0 H0 σ G H k E hw => ⟨_, po_none, fun Q hk => hk G H none E.wd (Stp.refl _ _ _) hw⟩
theorem xo_some (h : XE X z Γ e tyI wi) : XO X z Γ (some e) (fun k => wi fun i => k (some i)) := fun G0 H0 σ G H k E hw =>
  ⟨_, po_some re, fun Q hk => h G0 H0 σ G H _ _ E hw fun G1 H1 v i W1 S1 r h1 => ⟨i, r, hk G1 H1 _ W1 S1 h1⟩⟩
def RO (X : Cx) (e : Option Expr) : TO := fun σ H Q => ∃ t, PO X e t ∧ t σ H Q
theorem ro {e : Option Expr} : PO X e (RO X e) := ⟨fun pins s σ H Q I ⟨_, hp, h⟩ => hp.run pins s σ H Q I h⟩
theorem XO.ro {G0 H0 : Hp} {σ : L2.St} {G H : Hp} {k : Option Int → Prop} {Q : Option Int → Hp → Prop} (h : XO X z Γ lo wlo) (E : Ev z G0 H0 G H σ Γ) (hw : wlo k) (hk : ∀ G' H' y, Wd z G' H' → Stp z G H G' H' → k y → Q y H') : RO X lo σ H Q := by
  obtain ⟨t, h1, h2⟩ := h G0 H0 σ G H k E hw
  exact ⟨t, h1, h2 Q hk⟩
theorem xe_slL (h : XL X z Γ a A wl) (h1 : XO X z Γ lo wlo) (h2 : XO X z Γ hi whi) : XE X z Γ (.Subscript a (.Slice lo hi none p2) pos) (tyL A) (fun k => wl fun xs => wlo fun l => whi fun u => k (cutA xs l u)) := fun G0 H0 σ G H k Q E hw hk =>
  ⟨_, pe_slice sl_list re ro ro, h G0 H0 σ G H _ _ E hw fun G1 H1 q vs xs W1 S1 sq r g1 => h1.ro (E.step W1 S1) g1 fun G2 H2 l W2 S2 g2 => h2.ro (E.step W2 (S1.trans S2)) g2 fun G3 H3 u W3 S3 g3 =>
    ⟨q, vs, rfl, SqL.of ((sq.step S2).step S3).r, fun p hp => hk _ _ _ _ (W3.new hp) (((S1.trans S2).trans S3).trans (Stp.new W3.gh hp))
      ⟨p, _, rfl, upd_same, Paired.mono (fun _ _ => A.mono (S2.g.trans (S3.g.trans (same_new (W3.gh.free hp))))) (Paired.cut r l u)⟩ g3⟩⟩
theorem xe_slS (h : XE X z Γ a tyS ws) (h1 : XO X z Γ lo wlo) (h2 : XO X z Γ hi whi) : XE X z Γ (.Subscript a (.Slice lo hi none p2) pos) tyS (fun k => ws fun s => wlo fun l => whi fun u => s.length ≤ sizeLine ∧ k (cutS s l u)) := fun G0 H0 σ G H k Q E hw hk =>
  ⟨_, pe_slice sl_str re ro ro, h G0 H0 σ G H _ _ E hw fun G1 H1 v s W1 S1 r g1 => h1.ro (E.step W1 S1) g1 fun G2 H2 l W2 S2 g2 => h2.ro (E.step W2 (S1.trans S2)) g2 fun G3 H3 u W3 S3 g3 =>
    ⟨s, r.1, g3.1, hk _ _ _ _ W3 ((S1.trans S2).trans S3) ⟨rfl, sok_iff.mpr fun c hc => sok_iff.mp r.2 c (by
      unfold cutS at hc
      simp only [List.toList_toArray] at hc
      exact List.mem_of_mem_drop (List.mem_of_mem_take hc))⟩ g3.2⟩⟩
/-! ### +, in -/
theorem xe_addS (h : XE X z Γ a tyS ws) (h2 : XE X z Γ b tyS wt) : XE X z Γ (.BinOp a .Add b pos) tyS (fun k => ws fun s => wt fun t => s.length + t.length ≤ sizeLine ∧ k (s ++ t)) :=
  xe_op (A := tyS) (B := tyS) (C := tyS) op_add_str (w2 := fun s t k => s.length + t.length ≤ sizeLine ∧ k (s ++ t)) (op2_h fun _ _ _ _ x y _ _ r1 r2 hw hk => ⟨x, y, r1.1, r2.1, hw.1, hk _ _ ⟨rfl, sok_app r1.2 r2.2⟩ hw.2⟩) h h2
theorem xe_cat (h : XL X z Γ a A wl) (h2 : XL X z Γ b A wl2) : XE X z Γ (.BinOp a .Add b pos) (tyL A) (fun k => wl fun xs => wl2 fun ys => xs.length + ys.length ≤ sizeLine ∧ k (xs ++ ys)) := fun G0 H0 σ G H k Q E hw hk =>
  ⟨_, pe_op op_cat re re, h G0 H0 σ G H _ _ E hw fun G1 H1 q vs xs W1 S1 sq r g1 => h2 G0 H0 σ G1 H1 _ _ (E.step W1 S1) g1 fun G2 H2 q2 vs2 ys W2 S2 sq2 r2 ⟨hl, g2⟩ =>
    ⟨q, q2, vs, vs2, rfl, rfl, (sq.step S2).r, sq2.r, by rw [r.length, r2.length]; exact hl, fun p hp => hk _ _ _ _ (W2.new hp) ((S1.trans S2).trans (Stp.new W2.gh hp))
      ⟨p, _, rfl, upd_same, Paired.mono (fun _ _ => A.mono (same_new (W2.gh.free hp))) (Paired.app (Paired.mono (fun _ _ => A.mono S2.g) r) r2)⟩ g2⟩⟩
theorem scal_all [s : Scal A] : ∀ {vs : List V} {xs : List α} {G : Hp}, Paired (A.rep G) vs xs → vs.all flatV = true
  | _, _, _, .nil => rfl
  | _, _, _, .cons r t => by rw [List.all_cons, scal_all t, s.rep r, s.fl]; rfl
theorem eqV_int {i j : Int} : eqV (.int i) (.int j) = decide (i = j) := by
  show (i == j) = _
  rw [Bool.eq_iff_iff]; simp
class ScalEq (A : Ty α) [DecidableEq α] [s : Scal A] : Prop where
  ev : ∀ x y : α, eqV (s.val x) (s.val y) = decide (x = y)
instance : ScalEq tyI := ⟨fun x y => eqV_int⟩
instance : ScalEq tyS := ⟨fun x y => by
  show (x == y) = _
  rw [Bool.eq_iff_iff]
  simp only [beq_iff_eq, decide_eq_true_eq]⟩
theorem inV_mem [DecidableEq α] [s : Scal A] [q : ScalEq A] {x : α} : ∀ {vs : List V} {xs : List α} {G : Hp}, Paired (A.rep G) vs xs → inV (s.val x) vs = decide (x ∈ xs)
  | _, _, _, .nil => by simp [inV]
  | _, _, _, .cons (a := v) (b := y) (l₁ := vs) (l₂ := xs) r t => by
    have ih := inV_mem (x := x) t
    unfold inV at ih ⊢
    rw [List.any_cons, ih, s.rep r, q.ev]
    by_cases e1 : y = x
    · rw [decide_eq_true e1, decide_eq_true (show x ∈ y :: xs from e1 ▸ List.mem_cons_self)]
      rfl
    · rw [decide_eq_false e1, Bool.false_or]
      by_cases e2 : x ∈ xs
      · rw [decide_eq_true e2, decide_eq_true (List.mem_cons_of_mem _ e2)]
      · rw [decide_eq_false e2, decide_eq_false fun h => (List.mem_cons.mp h).elim (fun h => e1 h.symm) e2]
theorem o2_in [DecidableEq α] [s : Scal A] [ScalEq A] (h : XE X z Γ a A wa) (h2 : XL X z Γ b A wl) {G0 H0 : Hp} {σ : L2.St} {G H : Hp} {k : Bool → Prop} {Q : VK} {neg : Bool} (E : Ev z G0 H0 G H σ Γ) (hw : wa fun x => wl fun xs => k (if neg then !decide (x ∈ xs) else decide (x ∈ xs)))
    (hk : ∀ G' H' v y, Wd z G' H' → Stp z G H G' H' → tyB.rep G' v y → k y → Q v H') : tOp (rIn X.K neg) (RE X a) (RE X b) σ H Q :=
  h G0 H0 σ G H _ _ E hw fun G1 H1 v x W1 S1 r g1 => h2 G0 H0 σ G1 H1 _ _ (E.step W1 S1) g1 fun G2 H2 q2 vs2 ys W2 S2 sq2 r2 g2 => by
    rw [s.rep r]
    refine ⟨q2, vs2, rfl, .inl (SqL.of sq2.r), s.fl x, scal_all r2, ?_⟩
    rw [inV_mem r2]
    exact hk G2 H2 _ _ W2 (S1.trans S2) rfl g2
theorem xt_in [DecidableEq α] [s : Scal A] [ScalEq A] (h : XE X z Γ a A wa) (h2 : XL X z Γ b A wl) (hm : behindInMarks .In b = false := by rfl) : XT X z Γ (.Compare a [.In] [b] pos) (fun k => wa fun x => wl fun xs => k (decide (x ∈ xs))) := fun G0 H0 σ G H k Q E hw hk =>
  ⟨_, pt_cmpR op_in_seq re re hm, o2_in (neg := false) (k := k) h h2 E hw fun G' H' v y W S r q => ⟨y, r, hk G' H' y W S q⟩⟩
theorem xt_notIn [DecidableEq α] [s : Scal A] [ScalEq A] (h : XE X z Γ a A wa) (h2 : XL X z Γ b A wl) (hm : behindInMarks .NotIn b = false := by rfl) : XT X z Γ (.Compare a [.NotIn] [b] pos) (fun k => wa fun x => wl fun xs => k (!decide (x ∈ xs))) := fun G0 H0 σ G H k Q E hw hk =>
  ⟨_, pt_cmpR op_notIn_seq re re hm, o2_in (neg := true) (k := k) h h2 E hw fun G' H' v y W S r q => ⟨y, r, hk G' H' y W S q⟩⟩
theorem xe_in [DecidableEq α] [s : Scal A] [ScalEq A] (h : XE X z Γ a A wa) (h2 : XL X z Γ b A wl) (hm : behindInMarks .In b = false := by rfl) : XE X z Γ (.Compare a [.In] [b] pos) tyB (fun k => wa fun x => wl fun xs => k (decide (x ∈ xs))) := fun G0 H0 σ G H k Q E hw hk =>
  ⟨_, pe_cmpR op_in_seq re re hm, o2_in (neg := false) (k := k) h h2 E hw hk⟩
theorem o2_inP [DecidableEq α] [s : Scal A] [ScalEq A] (h : XE X z Γ a A wa) (h2 : XE X z Γ b (tyP A) wl) {G0 H0 : Hp} {σ : L2.St} {G H : Hp} {k : Bool → Prop} {Q : VK} {neg : Bool} (E : Ev z G0 H0 G H σ Γ) (hw : wa fun x => wl fun xs => k (if neg then !decide (x ∈ xs) else decide (x ∈ xs)))
    (hk : ∀ G' H' v y, Wd z G' H' → Stp z G H G' H' → tyB.rep G' v y → k y → Q v H') : tOp (rIn X.K neg) (RE X a) (RE X b) σ H Q :=
  h G0 H0 σ G H _ _ E hw fun G1 H1 v x W1 S1 r g1 => h2 G0 H0 σ G1 H1 _ _ (E.step W1 S1) g1 fun G2 H2 v2 ys W2 S2 ⟨q2, vs2, ev, hq, r2⟩ g2 => by
    rw [s.rep r]
    subst ev
    refine ⟨q2, vs2, rfl, .inr (SqT.of (W2.lst hq (fun _ => by intro e; cases e)).r), s.fl x, scal_all r2, ?_⟩
    rw [inV_mem r2]
    exact hk G2 H2 _ _ W2 (S1.trans S2) rfl g2
theorem xt_inP [DecidableEq α] [s : Scal A] [ScalEq A] (h : XE X z Γ a A wa) (h2 : XE X z Γ b (tyP A) wl) (hm : behindInMarks .In b = false := by rfl) : XT X z Γ (.Compare a [.In] [b] pos) (fun k => wa fun x => wl fun xs => k (decide (x ∈ xs))) := fun G0 H0 σ G H k Q E hw hk =>
  ⟨_, pt_cmpR op_in_seq re re hm, o2_inP (neg := false) (k := k) h h2 E hw fun G' H' v y W S r q => ⟨y, r, hk G' H' y W S q⟩⟩
theorem xe_inP [DecidableEq α] [s : Scal A] [ScalEq A] (h : XE X z Γ a A wa) (h2 : XE X z Γ b (tyP A) wl) (hm : behindInMarks .In b = false := by rfl) : XE X z Γ (.Compare a [.In] [b] pos) tyB (fun k => wa fun x => wl fun xs => k (decide (x ∈ xs))) := fun G0 H0 σ G H k Q E hw hk =>
  ⟨_, pe_cmpR op_in_seq re re hm, o2_inP (neg := false) (k := k) h h2 E hw hk⟩
theorem xt_notInP [DecidableEq α] [s : Scal A] [ScalEq A] (h : XE X z Γ a A wa) (h2 : XE X z Γ b (tyP A) wl) (hm : behindInMarks .NotIn b = false := by rfl) : XT X z Γ (.Compare a [.NotIn] [b] pos) (fun k => wa fun x => wl fun xs => k (!decide (x ∈ xs))) := fun G0 H0 σ G H k Q E hw hk =>
  ⟨_, pt_cmpR op_notIn_seq re re hm, o2_inP (neg := true) (k := k) h h2 E hw fun G' H' v y W S r q => ⟨y, r, hk G' H' y W S q⟩⟩
/-! ### dicts with text keys -/
def look {α : Type} (d : List (Str × α)) (k : Str) : Option α := (d.find? fun kv => decide (kv.1 = k)).map (·.2)
theorem look_rel {G : Hp} (k : Str) : ∀ {ks : List (Key × V)} {d : List (Str × α)}, Paired (kvR A G) ks d → match look d k with
    | none => valV ks (.inr k) = none
    | some y => ∃ v, valV ks (.inr k) = some v ∧ A.rep G v y
  | _, _, .nil => rfl
  | _, _, .cons (a := p) (b := q) (l₁ := ks) (l₂ := d) r t => by
    have ih := look_rel k t
    unfold look at ih ⊢
    by_cases h : q.1 = k
    · have hp : p.1 = .inr k := by rw [r.1.1, h]
      rw [List.find?_cons, decide_eq_true h]
      exact ⟨p.2, valV_pos hp, r.2⟩
    · have hp : ¬ p.1 = .inr k := fun e => h (by rw [r.1.1] at e; injection e)
      rw [List.find?_cons, decide_eq_false h, valV_neg hp]
      exact ih
theorem DqZ.get {H G : Hp} {q : Addr} {ks : List (Key × V)} {d : List (Str × α)} (sq : DqZ z H q (.dK ks)) (r : Paired (kvR A G) ks d) (k : Str) : DGet H q (.str k) (valV ks (.inr k)) := .inl ⟨ks, .inr k, sq.r, rfl, rfl⟩
theorem xt_inD (hu : X.A.units + 1 < cLine) (h : XE X z Γ a tyS ws) (h2 : XD X z Γ b A wd) (hm : behindInMarks .In b = false := by rfl) : XT X z Γ (.Compare a [.In] [b] pos) (fun k => ws fun s => wd fun d => k (look d s).isSome) := fun G0 H0 σ G H k Q E hw hk =>
  ⟨_, pt_cmp (pc_din hu re re) hm, h G0 H0 σ G H _ _ E hw fun G1 H1 v s W1 S1 r g1 => h2 G0 H0 σ G1 H1 _ _ (E.step W1 S1) g1 fun G2 H2 q ks d W2 S2 sq r2 g2 => by
    refine ⟨q, _, rfl, by rw [show v = V.str s from r.1]; exact sq.get r2 s, (look d s).isSome, ?_, hk G2 H2 _ W2 (S1.trans S2) g2⟩
    have e := look_rel s r2
    cases hl : look d s with
    | none => rw [hl] at e; rw [show valV ks (.inr s) = none from e]; rfl
    | some y => rw [hl] at e; obtain ⟨u, e, _⟩ := e; rw [e]; rfl⟩
theorem xt_notInD (hu : X.A.units + 1 < cLine) (h : XE X z Γ a tyS ws) (h2 : XD X z Γ b A wd) (hm : behindInMarks .NotIn b = false := by rfl) : XT X z Γ (.Compare a [.NotIn] [b] pos) (fun k => ws fun s => wd fun d => k (!(look d s).isSome)) := fun G0 H0 σ G H k Q E hw hk =>
  ⟨_, pt_cmp (pc_dnotin hu re re) hm, h G0 H0 σ G H _ _ E hw fun G1 H1 v s W1 S1 r g1 => h2 G0 H0 σ G1 H1 _ _ (E.step W1 S1) g1 fun G2 H2 q ks d W2 S2 sq r2 g2 => by
    refine ⟨q, _, rfl, by rw [show v = V.str s from r.1]; exact sq.get r2 s, !(look d s).isSome, ?_, hk G2 H2 _ W2 (S1.trans S2) g2⟩
    have e := look_rel s r2
    cases hl : look d s with
    | none => rw [hl] at e; rw [show valV ks (.inr s) = none from e]; rfl
    | some y => rw [hl] at e; obtain ⟨u, e, _⟩ := e; rw [e]; rfl⟩
theorem xe_get (hu : X.A.units + 1 < cLine) (h : XD X z Γ a A wd) (hi : XE X z Γ b tyS ws) (hs : NoSl b) : XE X z Γ (.Subscript a b pos) A (fun k => wd fun d => ws fun s => ∃ y, look d s = some y ∧ k y) := fun G0 H0 σ G H k Q E hw hk =>
  ⟨_, pe_dget hu re re hs, h G0 H0 σ G H _ _ E hw fun G1 H1 q ks d W1 S1 sq r g1 => hi G0 H0 σ G1 H1 _ _ (E.step W1 S1) g1 fun G2 H2 v s W2 S2 r2 ⟨y, ey, g2⟩ => by
    have r' : Paired (kvR A G2) ks d := Paired.mono (fun _ _ z => ⟨z.1, A.mono S2.g z.2⟩) r
    have e := look_rel s r'
    rw [ey] at e
    obtain ⟨u, e, ru⟩ := e
    refine ⟨q, u, rfl, ?_, hk G2 H2 u y W2 (S1.trans S2) ru g2⟩
    rw [show v = V.str s from r2.1, ← e]
    exact (sq.step S2).get r' s⟩
theorem xe_getD {c : Expr} {apos : Pos} (hu : X.A.units + 1 < cLine) (h : XD X z Γ a A wd) (hi : XE X z Γ b tyS ws) (hc : XE X z Γ c A wa) (m : M2 X a "get" apos b c pos) : XE X z Γ (.Call (.Attribute a "get" apos) [b, c] [] pos) A (fun k => wd fun d => ws fun s => wa fun y => k ((look d s).getD y)) := fun G0 H0 σ G H k Q E hw hk =>
  ⟨_, pe_dget2 hu re re re m, h G0 H0 σ G H _ _ E hw fun G1 H1 q ks d W1 S1 sq r g1 => ⟨q, rfl, .inl ⟨ks, sq.r⟩, hi G0 H0 σ G1 H1 _ _ (E.step W1 S1) g1 fun G2 H2 v s W2 S2 r2 g2 => hc G0 H0 σ G2 H2 _ _ (E.step W2 (S1.trans S2)) g2 fun G3 H3 u y W3 S3 r3 g3 => by
    have r' : Paired (kvR A G3) ks d := Paired.mono (fun _ _ z => ⟨z.1, A.mono (S2.g.trans S3.g) z.2⟩) r
    have e := look_rel s r'
    refine ⟨valV ks (.inr s), ?_, hk G3 H3 _ ((look d s).getD y) W3 ((S1.trans S2).trans S3) ?_ g3⟩
    · rw [show v = V.str s from r2.1]
      exact ((sq.step S2).step S3).get r' s
    · cases hl : look d s with
      | none => rw [hl] at e; rw [show valV ks (.inr s) = none from e]; exact r3
      | some w => rw [hl] at e; obtain ⟨u', e, ru⟩ := e; rw [e]; exact ru⟩⟩
/-! ### built-in calls -/
variable {id x : String}
theorem xe_max2 (hc : X.calm = true) (hm : X.mg "max" = none) (ha : XE X z Γ a tyI wi) (hb : XE X z Γ b tyI wj) (hg : Gl X "max" := by rfl) (hs : starEach (a :: [b]) X.env = (false, eval a X.env) :: starEach [b] X.env := by rfl) (hs2 : starEach (b :: []) X.env = (false, eval b X.env) :: starEach [] X.env := by rfl)
    (hpl : (backTo pos (starEach [b] X.env)).any (·.1) = false := by rfl) : XE X z Γ (.Call (.Name "max" p) [a, b] [] pos) tyI (fun k => wi fun x => wj fun y => k (max x y)) := fun G0 H0 σ G H k Q E hw hk =>
  ⟨_, pe_callB (call_max2 hc) hg hm (by decide +kernel) (pa_cons re (pa_cons re pa_nil hs2) hs) (by decide) (by decide) hs hpl, ha G0 H0 σ G H _ _ E hw fun G1 H1 v x W1 S1 r g1 => hb G0 H0 σ G1 H1 _ _ (E.step W1 S1) g1 fun G2 H2 u y W2 S2 r2 g2 =>
    ⟨x, y, by rw [show v = V.int x from r, show u = V.int y from r2], hk G2 H2 _ (max x y) W2 (S1.trans S2) (by show V.int _ = V.int _; congr 1; split <;> omega) g2⟩⟩
theorem xe_min2 (hc : X.calm = true) (hm : X.mg "min" = none) (ha : XE X z Γ a tyI wi) (hb : XE X z Γ b tyI wj) (hg : Gl X "min" := by rfl) (hs : starEach (a :: [b]) X.env = (false, eval a X.env) :: starEach [b] X.env := by rfl) (hs2 : starEach (b :: []) X.env = (false, eval b X.env) :: starEach [] X.env := by rfl)
    (hpl : (backTo pos (starEach [b] X.env)).any (·.1) = false := by rfl) : XE X z Γ (.Call (.Name "min" p) [a, b] [] pos) tyI (fun k => wi fun x => wj fun y => k (min x y)) := fun G0 H0 σ G H k Q E hw hk =>
  ⟨_, pe_callB (call_min2 hc) hg hm (by decide +kernel) (pa_cons re (pa_cons re pa_nil hs2) hs) (by decide) (by decide) hs hpl, ha G0 H0 σ G H _ _ E hw fun G1 H1 v x W1 S1 r g1 => hb G0 H0 σ G1 H1 _ _ (E.step W1 S1) g1 fun G2 H2 u y W2 S2 r2 g2 =>
    ⟨x, y, by rw [show v = V.int x from r, show u = V.int y from r2], hk G2 H2 _ (min x y) W2 (S1.trans S2) (by show V.int _ = V.int _; congr 1; split <;> omega) g2⟩⟩
end
end Zk
/-! TL4: promises, calls, fields. -/
namespace Zk
open PySem PySem.Spec L2

/-! ### promises -/
/-- a def that only makes new things: its arguments in a row, its answer, its pure reading -/
def spP {ρ β : Type} (R : Row ρ) (B : Ty β) (w : ρ → (β → Prop) → Prop) : Sp := fun vs H Q _ => ∃ (G : Hp) (x : ρ) (k : β → Prop), Wd Z0 G H ∧ R.rep G vs x ∧ w x k ∧
  ∀ G' H' v y, Wd Z0 G' H' → Stp Z0 G H G' H' → B.rep G' v y → k y → Q v H'
/-- what the law's state is -/
structure Zm where
  ok : Hp → HO → Prop
  mono : ∀ {G G' : Hp} {o : HO}, Same G G' → ok G o → ok G' o
def Zm.at_ (m : Zm) (s : Addr) : Zs := ⟨some s, m.ok, m.mono⟩
/-- a def whose first argument is the law's state -/
def spS (m : Zm) {ρ β : Type} (R : Row ρ) (B : Ty β) (w : ρ → (β → Prop) → Prop) : Sp := fun vs H Q _ => ∃ (s : Addr) (rs : List V) (G : Hp) (x : ρ) (k : β → Prop), vs = .ref s :: rs ∧ Wd (m.at_ s) G H ∧ R.rep G rs x ∧ w x k ∧
  ∀ G' H' v y, Wd (m.at_ s) G' H' → Stp (m.at_ s) G H G' H' → B.rep G' v y → k y → Q v H'
/-- an __init__ -/
def spI (C : Addr) (ns : List Str) {ρ φ : Type} (R : Row ρ) (Rf : Row φ) (w : ρ → (φ → Prop) → Prop) : Sp := fun vs H Q _ => ∃ (p dx : Addr) (rs : List V) (G Hb : Hp) (x : ρ) (k : φ → Prop), vs = .ref p :: rs ∧
  H = upd (upd Hb dx (.own p)) p (.ins C dx []) ∧ Hb p = none ∧ Hb dx = none ∧ dx ≠ p ∧ Wd Z0 G Hb ∧ R.rep G rs x ∧ w x k ∧
  ∀ G' H' y, Wd Z0 G' H' → Stp Z0 G Hb G' H' → (tyO C ns Rf).rep G' (.ref p) y → k y → Q .non H'
/-- a def of the module that keeps a promise -/
def Cle (P : Program) (w : World) (K : PySem.W.Frag) (mg : Str → Option Value) (base : Heap) (x : Str) (n : Nat) (sp : Sp) : Prop :=
  ∃ (f : Addr) (fd : FuncData) (ps : List Str), FnOk P w K mg base CX0 n f fd ps sp ∧ mg x = some (.ref f) ∧ PySem.W.keepIn K (.ref f) = true ∧ Binds K fd ps []
def CleM (P : Program) (w : World) (K : PySem.W.Frag) (mg : Str → Option Value) (base : Heap) (C : Addr) (m : Str) (n : Nat) (sp : Sp) : Prop :=
  ∃ (f : Addr) (fd : FuncData) (ps : List Str), FnOk P w K mg base CX0 n f fd ps sp ∧ Meth K C m f ∧ Binds K fd ps []
def CleI (P : Program) (w : World) (K : PySem.W.Frag) (mg : Str → Option Value) (base : Heap) (x : Str) (C : Addr) (n : Nat) (sp : Sp) : Prop :=
  ∃ (f : Addr) (fd : FuncData) (ps : List Str), FnOk P w K mg base CX0 n f fd ps sp ∧ Mk K C f ∧ mg x = some (.ref C) ∧ Binds K fd ps []

section
variable {X : Cx} {z : Zs} {Γ : List Sl} {a b c e o : Expr} {es : List Expr} {α β γ ρ φ : Type} {A : Ty α} {B : Ty β} {R : Row ρ} {Rf : Row φ} {pos p apos : Pos} {n : Nat} {x m : Str} {C : Addr} {ns : List Str}
  {wr : (ρ → Prop) → Prop} {wo : (φ → Prop) → Prop}

theorem spP_use {w : ρ → (β → Prop) → Prop} {G H G1 H1 : Hp} {vs : List V} {y : ρ} {k : β → Prop} {Q : VK} (W1 : Wd z G1 H1) (S1 : Stp z G H G1 H1) (r : R.rep G1 vs y) (hw : w y k)
    (hk : ∀ G' H' v y, Wd z G' H' → Stp z G H G' H' → B.rep G' v y → k y → Q v H') : spP R B w (vs ++ []) H1 Q E0 := by
  rw [List.append_nil]
  exact ⟨G1, y, k, W1.z0, r, hw, fun G' H' v y W' S' r' q => hk G' H' v y (W1.after0 W' S') (S1.trans S'.lift) r' q⟩
/-- f(e, ..) -/
theorem xe_call {w : ρ → (β → Prop) → Prop} (F : Cle X.prog X.w X.K X.mg X.base x n (spP R B w)) (hr : Room n X.A) (ha : XA X z Γ (e :: es) R wr) (hg : Gl X x := by rfl)
    (hs : starEach (e :: es) X.env = (false, eval e X.env) :: starEach es X.env := by rfl) (hpl : (backTo pos (starEach es X.env)).any (·.1) = false := by rfl) (hdb : (x == ("__debug__" : Str)) = false := by decide) :
    XE X z Γ (.Call (.Name x p) (e :: es) [] pos) B (fun k => wr fun y => w y k) := fun G0 H0 σ G H k Q E hw hk => by
  obtain ⟨f, fd, ps, F, hm, hkp, hb⟩ := F
  exact ⟨_, pe_call F hr hg hm hkp hb .nil pass0 ra hdb hs hpl, ha G0 H0 σ G H _ _ E hw fun G1 H1 vs y W1 S1 r h1 => spP_use W1 S1 r h1 hk⟩
/-- f() -/
theorem xe_call0 {w : Unit → (β → Prop) → Prop} (F : Cle X.prog X.w X.K X.mg X.base x n (spP Row.nil B w)) (hr : Room n X.A) (hg : Gl X x := by rfl) (hdb : (x == ("__debug__" : Str)) = false := by decide) :
    XE X z Γ (.Call (.Name x p) [] [] pos) B (fun k => w () k) := fun G0 H0 σ G H k Q E hw hk => by
  obtain ⟨f, fd, ps, F, hm, hkp, hb⟩ := F
  exact ⟨_, pe_call0 F hr hg hm hkp hb .nil pass0 hdb, spP_use E.wd (Stp.refl _ _ _) rfl hw hk⟩
/-- f(state, e, ..) -/
theorem xe_callS {mm : Zm} {s : Addr} {w : ρ → (β → Prop) → Prop} {sx : Str} {sp : Pos} (i : Nat) (hΓ : Γ[i]? = some .st) (hN : X.N[i]? = some sx) (hv : Vis X.env.scope sx) (F : Cle X.prog X.w X.K X.mg X.base x n (spS mm R B w)) (hr : Room n X.A) (ha : XA X (mm.at_ s) Γ es R wr) (hg : Gl X x := by rfl)
    (hs : starEach (.Name sx sp :: es) X.env = (false, eval (.Name sx sp) X.env) :: starEach es X.env := by rfl) (hpl : (backTo pos (starEach es X.env)).any (·.1) = false := by rfl) (hdb : (x == ("__debug__" : Str)) = false := by decide)
    (hd : (sx == ("__debug__" : Str)) = false := by decide) (hcd : (sx == ("__classdict__" : Str)) = false := by decide) :
    XE X (mm.at_ s) Γ (.Call (.Name x p) (.Name sx sp :: es) [] pos) B (fun k => wr fun y => w y k) := fun G0 H0 σ G H k Q E hw hk => by
  obtain ⟨f, fd, ps, F, hm, hkp, hb⟩ := F
  obtain ⟨ov, eo, s', es', eo'⟩ := E.at_ hΓ
  subst eo'
  cases es'
  refine ⟨_, pe_call F hr hg hm hkp hb .nil pass0 (pa_cons (pe_var hN hv hd hcd) ra hs) hdb hs hpl, ?_⟩
  refine ⟨_, eo, ha G0 H0 σ G H _ _ E hw fun G1 H1 vs y W1 S1 r h1 => ?_⟩
  show spS mm R B w ((V.ref s :: vs) ++ []) H1 Q E0
  rw [List.append_nil]
  exact ⟨s, vs, G1, y, k, rfl, W1, r, h1, fun G' H' v y W' S' r' q => hk G' H' v y W' (S1.trans S') r' q⟩
/-! ### methods -/
theorem zip_none : ∀ {ns : List Str} {vs : List V}, m ∉ ns → (ns.zip vs).lookup m = none
  | [], _, _ => rfl
  | _ :: _, [], _ => rfl
  | n :: ns, v :: vs, h => by
    have h1 : (m == n) = false := by
      rw [beq_eq_false_iff_ne]
      exact fun e => h (e ▸ List.mem_cons_self)
    show (List.lookup m ((n, v) :: ns.zip vs)) = none
    rw [List.lookup_cons, h1]
    exact zip_none fun q => h (List.mem_cons_of_mem _ q)
theorem zip_some : ∀ {ns : List Str} {vs : List V} {i : Nat} {v : V}, ns.Nodup → ns[i]? = some m → vs[i]? = some v → (ns.zip vs).lookup m = some v
  | [], _, i, _, _, h, _ => by simp at h
  | _ :: _, [], i, _, _, _, h => by simp at h
  | n :: ns, u :: vs, 0, v, _, h1, h2 => by
    have e1 : n = m := Option.some.inj h1
    have e2 : u = v := Option.some.inj h2
    subst e1 e2
    show (List.lookup n ((n, u) :: ns.zip vs)) = some u
    rw [List.lookup_cons, beq_self_eq_true]
  | n :: ns, u :: vs, i + 1, v, nd, h1, h2 => by
    have h1' : ns[i]? = some m := h1
    have hne : (m == n) = false := by
      rw [beq_eq_false_iff_ne]
      intro e
      subst e
      exact (List.nodup_cons.mp nd).1 (List.mem_of_getElem? h1')
    show (List.lookup m ((n, u) :: ns.zip vs)) = some v
    rw [List.lookup_cons, hne]
    exact zip_some (i := i) (List.nodup_cons.mp nd).2 h1' h2
theorem xe_meth {w : φ × ρ → (β → Prop) → Prop} {pl : Sem Bool} (hc : Cls X.K C) (F : CleM X.prog X.w X.K X.mg X.base C m n (spP (Row.cons (tyO C ns Rf) R) B w)) (hr : Room n X.A) (hmn : m ∉ ns) (ho : XE X z Γ o (tyO C ns Rf) wo) (ha : XA X z Γ (e :: es) R wr)
    (hst : starEach (e :: es) X.env = (false, eval e X.env) :: starEach es X.env := by rfl) (hpl : (backTo pos (starEach es X.env)).any (·.1) = false := by rfl)
    (ht : eval (.Call (.Attribute o m apos) (e :: es) [] pos) X.env = (do
      let ov ← eval o X.env
      standAt apos.atName
      let (f, first) ← holding [ov] (getMethod ov m pl)
      callWith pos f first (backTo pos (starEach (e :: es) X.env)) (backToKw pos (keywordEach [] X.env))) := by rfl) :
    XE X z Γ (.Call (.Attribute o m apos) (e :: es) [] pos) B (fun k => wo fun s => wr fun y => w (s, y) k) := fun G0 H0 σ G H k Q E hw hk => by
  obtain ⟨f, fd, ps, F, hm, hb⟩ := F
  refine ⟨_, pe_meth re hc hm F hr hb .nil pass0 ra hst hpl ht, ho G0 H0 σ G H _ _ E hw fun G1 H1 v s W1 S1 r h1 => ?_⟩
  obtain ⟨q, dx, us, ev, hq, r'⟩ := id r
  refine ⟨q, dx, _, ev, (W1.lst hq (fun _ => by intro e; cases e)).r, zip_none hmn, ha G0 H0 σ G1 H1 _ _ (E.step W1 S1) h1 fun G2 H2 vs y W2 S2 r2 h2 => ?_⟩
  exact spP_use (vs := v :: vs) W2 (S1.trans S2) ⟨v, vs, rfl, (tyO C ns Rf).mono S2.g r, r2⟩ h2 hk
theorem xe_meth0 {w : φ → (β → Prop) → Prop} {pl : Sem Bool} (hc : Cls X.K C) (F : CleM X.prog X.w X.K X.mg X.base C m n (spP (Row.one (tyO C ns Rf)) B w)) (hr : Room n X.A) (hmn : m ∉ ns) (ho : XE X z Γ o (tyO C ns Rf) wo)
    (ht : eval (.Call (.Attribute o m apos) [] [] pos) X.env = (do
      let ov ← eval o X.env
      standAt apos.atName
      let (f, first) ← holding [ov] (getMethod ov m pl)
      callWith pos f first (backTo pos (starEach [] X.env)) (backToKw pos (keywordEach [] X.env))) := by rfl) :
    XE X z Γ (.Call (.Attribute o m apos) [] [] pos) B (fun k => wo fun s => w s k) := fun G0 H0 σ G H k Q E hw hk => by
  obtain ⟨f, fd, ps, F, hm, hb⟩ := F
  refine ⟨_, pe_meth0 re hc hm F hr hb .nil pass0 ht, ho G0 H0 σ G H _ _ E hw fun G1 H1 v s W1 S1 r h1 => ?_⟩
  obtain ⟨q, dx, us, ev, hq, r'⟩ := id r
  refine ⟨q, dx, _, ev, (W1.lst hq (fun _ => by intro e; cases e)).r, zip_none hmn, ?_⟩
  exact spP_use (vs := [v]) W1 S1 ⟨v, rfl, r⟩ h1 hk
/-! ### fields -/
theorem xe_fld {f : φ → α} {i : Nat} (hc : Cls X.K C) (hn : NoAttr X.K C m) (hnd : ns.Nodup) (hi : ns[i]? = some m) (hr : RowAt Rf i A f) (h : XE X z Γ e (tyO C ns Rf) wo) (hb : attributeBase e m X.env (eval e X.env) = eval e X.env := by rfl) :
    XE X z Γ (.Attribute e m pos) A (fun k => wo fun s => k (f s)) := fun G0 H0 σ G H k Q E hw hk =>
  ⟨_, pe_fld re hb, h G0 H0 σ G H _ _ E hw fun G1 H1 v s W1 S1 ⟨q, dx, us, ev, hq, r⟩ h1 => by
    obtain ⟨u, hu, ru⟩ := hr G1 us s r
    exact ⟨q, C, dx, _, u, ev, (W1.lst hq (fun _ => by intro e; cases e)).r, hc, hn, zip_some hnd hi hu, hk G1 H1 u _ W1 S1 ru h1⟩⟩
theorem fr_look : ∀ {G : Hp} {vs : List (Str × V)} {fs : List (Str × Fz)} {j : Nat} {g : Fz}, FR G vs fs → (fs.map (·.1)).Nodup → fs[j]? = some (m, g) → ∃ v, vs.lookup m = some v ∧ g.A.rep G v g.x
  | _, _, _, j, _, .nil, _, h => by simp at h
  | _, (a, u) :: vs, _, 0, g, .cons r t, _, h => by
    have e := Option.some.inj (show some _ = some (m, g) from h)
    have e1 : a = m := r.1.trans (congrArg Prod.fst e)
    refine ⟨u, ?_, ?_⟩
    · rw [List.lookup_cons, e1, beq_self_eq_true]
    · have r2 := r.2
      rw [e] at r2
      exact r2
  | _, (a, u) :: vs, f :: fs, j + 1, g, .cons r t, nd, h => by
    have h' : fs[j]? = some (m, g) := h
    obtain ⟨v, h1, h2⟩ := fr_look (j := j) t (List.nodup_cons.mp nd).2 h'
    have hne : (m == a) = false := by
      rw [beq_eq_false_iff_ne]
      intro e
      refine (List.nodup_cons.mp nd).1 ?_
      show f.1 ∈ fs.map (·.1)
      rw [← r.1, show (a, u).1 = m from e.symm]
      exact List.mem_map.mpr ⟨_, List.mem_of_getElem? h', rfl⟩
    exact ⟨v, by rw [List.lookup_cons, hne]; exact h1, h2⟩
/-- self.f within __init__ -/
theorem xe_fldOb {fs : List (Str × Fz)} {sx : Str} {sp : Pos} {q : Addr} {y : α} (i j : Nat) (hΓ : Γ[i]? = some (.ob q C fs)) (hN : X.N[i]? = some sx) (hv : Vis X.env.scope sx) (hc : Cls X.K C) (hn : NoAttr X.K C m) (hnd : (fs.map (·.1)).Nodup) (hj : fs[j]? = some (m, ⟨A, y⟩))
    (hb : attributeBase (.Name sx sp) m X.env (eval (.Name sx sp) X.env) = eval (.Name sx sp) X.env := by rfl) (hd : (sx == ("__debug__" : Str)) = false := by decide) (hcd : (sx == ("__classdict__" : Str)) = false := by decide) :
    XE X z Γ (.Attribute (.Name sx sp) m pos) A (fun k => k y) := fun G0 H0 σ G H k Q E hw hk => by
  obtain ⟨ov, eo, dx, vs, rfl, r, q'⟩ := E.at_ hΓ
  obtain ⟨v, h1, h2⟩ := fr_look q' hnd hj
  exact ⟨_, pe_fld (pe_var hN hv hd hcd) hb, _, eo, _, C, dx, vs, v, rfl, r.h, hc, hn, h1, hk G H v y E.wd (Stp.refl _ _ _) h2 hw⟩
/-! ### C(..) -/
theorem xe_make {w : ρ → (φ → Prop) → Prop} (F : CleI X.prog X.w X.K X.mg X.base x C n (spI C ns R Rf w)) (hr : Room (n + 1) X.A) (ha : XA X z Γ (e :: es) R wr) (hg : Gl X x := by rfl)
    (hs : starEach (e :: es) X.env = (false, eval e X.env) :: starEach es X.env := by rfl) (hpl : (backTo pos (starEach es X.env)).any (·.1) = false := by rfl) (hdb : (x == ("__debug__" : Str)) = false := by decide) :
    XE X z Γ (.Call (.Name x p) (e :: es) [] pos) (tyO C ns Rf) (fun k => wr fun y => w y k) := fun G0 H0 σ G H k Q E hw hk => by
  obtain ⟨f, fd, ps, F, M, hm, hb⟩ := F
  refine ⟨_, pe_make M F hr hg hm hb .nil pass0 ra hdb hs hpl, ha G0 H0 σ G H _ _ E hw fun G1 H1 vs y W1 S1 r h1 => fun q dx nq nd ne => ?_⟩
  rw [List.append_nil]
  exact ⟨q, dx, vs, G1, H1, y, k, rfl, rfl, nq, nd, ne, W1.z0, r, h1, fun G' H' y W' S' r' q' => ⟨rfl, hk G' H' _ y (W1.after0 W' S') (S1.trans S'.lift) r' q'⟩⟩
end
end Zk
/-! TL5: targets, what is walked, new lists, statements, loops. -/
namespace Zk
open PySem PySem.Spec L2

theorem Stp.rebase {z : Zs} {G0 H0 G1 H1 G H : Hp} (a : Stp z G0 H0 G1 H1) (b : Stp z G1 H0 G H) : Stp z G0 H0 G H :=
  ⟨a.g.trans b.g, b.h, fun c o h e => b.n c o h (a.n c o h e), b.t⟩
theorem Stp.debase {z : Zs} {G0 H0 G1 H1 : Hp} (a : Stp z G0 H0 G1 H1) : Stp z G1 H0 G1 H1 :=
  ⟨Same.refl _, a.h, fun _ _ _ e => e, a.t⟩
theorem Ev.debase {z : Zs} {G0 H0 G H : Hp} {σ : L2.St} {Γ : List Sl} (E : Ev z G0 H0 G H σ Γ) : Ev z G H0 G H σ Γ := ⟨E.wd, E.base.debase, E.len, E.sl, E.ap⟩
theorem Ev.rebase {z : Zs} {G0 H0 G1 H1 G H : Hp} {σ : L2.St} {Γ : List Sl} (a : Stp z G0 H0 G1 H1) (E : Ev z G1 H0 G H σ Γ) : Ev z G0 H0 G H σ Γ := ⟨E.wd, a.rebase E.base, E.len, E.sl, E.ap⟩
theorem Meets.debase {z : Zs} {G0 H0 G1 H1 : Hp} {D : Ends} {ct : Ct} (a : Stp z G0 H0 G1 H1) (M : Meets z G0 H0 D ct) : Meets z G1 H0 D ct :=
  ⟨fun σ G H Γ E h => M.n σ G H Γ (E.rebase a) h, fun σ G H Γ E h => M.b σ G H Γ (E.rebase a) h, fun σ G H Γ E h => M.c σ G H Γ (E.rebase a) h, fun σ G H Γ v y E r q => M.r σ G H Γ v y (E.rebase a) r q⟩

/-! ### targets -/
def RG (X : Cx) (tg : Expr) : TG := fun v σ H Q => ∃ t, PG X tg t ∧ t v σ H Q
theorem rg {X : Cx} {tg : Expr} : PG X tg (RG X tg) := ⟨fun pins s σ H v u Q I r ⟨_, hp, h⟩ => hp.run pins s σ H v u Q I r h⟩
def RGs (X : Cx) (tgs : List Expr) : TGs := fun v σ H Q => ∃ t, PGs X tgs t ∧ t v σ H Q
theorem rgs {X : Cx} {tgs : List Expr} : PGs X tgs (RGs X tgs) := ⟨fun pins s σ H vs us Q I r ⟨_, hp, h⟩ => hp.run pins s σ H vs us Q I r h⟩
def XG (X : Cx) (z : Zs) (Γ : List Sl) (tg : Expr) {α : Type} (A : Ty α) (is : List Nat) (Γ' : α → List Sl) : Prop :=
  ∀ (G0 H0 : Hp) (σ : L2.St) (G H : Hp) (v : V) (x : α) (Q : L2.St → Hp → Prop), Ev z G0 H0 G H σ Γ → A.rep G v x → (∀ σ', Ev z G0 H0 G H σ' (Γ' x) → (σ'.length = σ.length ∧ ∀ j, j ∉ is → σ'[j]? = σ[j]?) → Q σ' H) → RG X tg v σ H Q
def XGs (X : Cx) (z : Zs) (Γ : List Sl) (tgs : List Expr) {ρ : Type} (R : Row ρ) (is : List Nat) (Γ' : ρ → List Sl) : Prop :=
  ∀ (G0 H0 : Hp) (σ : L2.St) (G H : Hp) (vs : List V) (x : ρ) (Q : L2.St → Hp → Prop), Ev z G0 H0 G H σ Γ → R.rep G vs x → (∀ σ', Ev z G0 H0 G H σ' (Γ' x) → (σ'.length = σ.length ∧ ∀ j, j ∉ is → σ'[j]? = σ[j]?) → Q σ' H) → RGs X tgs vs σ H Q
section
variable {X : Cx} {z : Zs} {Γ : List Sl} {a b c e tg : Expr} {tgs : List Expr} {α β ρ : Type} {A : Ty α} {B : Ty β} {R : Row ρ} {pos p : Pos}
theorem xg_name (i : Nat) {x : Str} (hN : X.N.Nodup) (hi : X.N[i]? = some x) (hx : Loc X.env.scope x) (hf : X.fn x = true ∨ X.env.scope.names.lookup x = some .local := by first | exact .inl rfl | exact .inr rfl) : XG X z Γ (.Name x pos) A [i] (fun y => Γ.set i (.fz A y)) :=
  fun G0 H0 σ G H v x Q E r hq => ⟨_, pg_name hN hi hx hf, hq _ (E.fz i r) ⟨List.length_set, fun j hj => List.getElem?_set_ne (fun q => hj (by rw [q]; exact List.mem_singleton.mpr rfl))⟩⟩
/-- a target whose value is not looked at again -/
theorem xg_drop (i : Nat) {x : Str} (hN : X.N.Nodup) (hi : X.N[i]? = some x) (hx : Loc X.env.scope x) (hf : X.fn x = true ∨ X.env.scope.names.lookup x = some .local := by first | exact .inl rfl | exact .inr rfl) : XG X z Γ (.Name x pos) A [i] (fun _ => Γ.set i .no) :=
  fun G0 H0 σ G H v x Q E r hq => ⟨_, pg_name hN hi hx hf, hq _ (E.set i trivial rfl) ⟨List.length_set, fun j hj => List.getElem?_set_ne (fun q => hj (by rw [q]; exact List.mem_singleton.mpr rfl))⟩⟩
theorem xgs_one {is : List Nat} {Γ' : α → List Sl} (h : XG X z Γ tg A is Γ') (hs : (assignEach (tg :: []) X.env).map (·.2) = assign tg X.env :: (assignEach [] X.env).map (·.2) := by rfl) : XGs X z Γ [tg] (Row.one A) is Γ' := fun G0 H0 σ G H vs x Q E ⟨v, ev, r⟩ hq =>
  ⟨_, pgs_cons rg pgs_nil hs, v, [], ev, h G0 H0 σ G H v x _ E r fun σ' E' q => ⟨rfl, hq σ' E' q⟩⟩
theorem xgs_cons {is js : List Nat} {Γ' : α → List Sl} {Γ2 : α → ρ → List Sl} (h : XG X z Γ tg A is Γ') (h2 : ∀ x, XGs X z (Γ' x) tgs R js (Γ2 x)) (hs : (assignEach (tg :: tgs) X.env).map (·.2) = assign tg X.env :: (assignEach tgs X.env).map (·.2) := by rfl) :
    XGs X z Γ (tg :: tgs) (Row.cons A R) (is ++ js) (fun x => Γ2 x.1 x.2) := fun G0 H0 σ G H vs x Q E ⟨v, r, ev, r1, r2⟩ hq =>
  ⟨_, pgs_cons rg rgs hs, v, r, ev, h G0 H0 σ G H v x.1 _ E r1 fun σ' E' q => h2 x.1 G0 H0 σ' G H r x.2 _ E' r2 fun σ2 E2 q2 => hq σ2 E2 ⟨q2.1.trans q.1, fun j hj =>
    (q2.2 j fun m => hj (List.mem_append_right _ m)).trans (q.2 j fun m => hj (List.mem_append_left _ m))⟩⟩
theorem xg_tup {is : List Nat} {Γ' : ρ → List Sl} {k : Nat} (hc : X.calm = true) (h : XGs X z Γ tgs R is Γ') (hn : (assignEach tgs X.env).length = R.n := by rfl) (hst : (assignEach tgs X.env).findIdx? (·.1) = none := by rfl) : XG X z Γ (.Tuple tgs k pos) (tyT R) is Γ' :=
  fun G0 H0 σ G H v x Q E ⟨q, vs, ev, hq, r⟩ hQ => ⟨_, pg_tup hc rgs hn hst, q, vs, ev, SqT.of (E.wd.lst hq (fun _ => by intro e; cases e)).r, R.len r, h G0 H0 σ G H vs x Q E r hQ⟩
end

/-! ### what is walked -/
def RI (X : Cx) (tg iter : Expr) : TI := fun σ H R => ∃ t, PI X tg iter t ∧ t σ H R
theorem ri {X : Cx} {tg iter : Expr} : PI X tg iter (RI X tg iter) := ⟨fun pins s σ H R I ⟨_, hp, h⟩ => hp.run pins s σ H R I h⟩
/-- the walk J gives the items xs, wherever what G holds is held -/
structure ItOk (z : Zs) (G : Hp) (J : It) {α : Type} (A : Ty α) (xs : List α) : Prop where
  go : ∀ (i : Nat) (x : α) (G2 H2 : Hp), Wd z G2 H2 → Same G G2 → xs[i]? = some x → J.go i H2
  yld : ∀ (i : Nat) (x : α) (G2 H2 : Hp) (v : V) (H3 : Hp), Wd z G2 H2 → Same G G2 → xs[i]? = some x → J.yld i H2 v H3 → ∃ G3, Wd z G3 H3 ∧ Stp z G2 H2 G3 H3 ∧ A.rep G3 v x
  stop : ∀ (G2 H2 : Hp), Wd z G2 H2 → Same G G2 → J.stop xs.length H2
def XI (X : Cx) (z : Zs) (Γ : List Sl) (tg e : Expr) {α : Type} (A : Ty α) (w : (List α → Prop) → Prop) : Prop :=
  ∀ (G0 H0 : Hp) (σ : L2.St) (G H : Hp) (k : List α → Prop) (R : It → Hp → Prop), Ev z G0 H0 G H σ Γ → w k → (∀ G' H' J xs, Wd z G' H' → Stp z G H G' H' → ItOk z G' J A xs → k xs → R J H') → RI X tg e σ H R
section
variable {X : Cx} {z : Zs} {Γ : List Sl} {a b c e tg : Expr} {es : List Expr} {α β γ ρ : Type} {A : Ty α} {B : Ty β} {R : Row ρ} {pos p : Pos} {wl : (List α → Prop) → Prop} {wl2 : (List β → Prop) → Prop} {wi wj : (Int → Prop) → Prop} {ws : (Str → Prop) → Prop}
theorem Wd.of {G H : Hp} (w : Wd z G H) {a : Addr} {u : HO} (h : G a = some u) (hu : ∀ kvs, u ≠ .dK kvs) : H a = some u := (w.lst h hu).r
theorem nodl {xs : List V} : ∀ kvs, HO.lst xs ≠ .dK kvs := fun _ => by intro e; cases e
theorem nodt {xs : List V} : ∀ kvs, HO.tup xs ≠ .dK kvs := fun _ => by intro e; cases e
theorem it_list {K : PySem.W.Frag} {G : Hp} {q : Addr} {vs : List V} {xs : List α} (hq : G q = some (.lst vs)) (r : Paired (A.rep G) vs xs) : ItOk z G (Itl K q) A xs where
  go := fun i x G2 H2 W s h => by
    obtain ⟨v, hv, _⟩ := Paired.at_ r h
    exact ⟨vs, v, SqL.of (W.of (s _ _ hq) nodl), hv⟩
  yld := fun i x G2 H2 v H3 W s h ⟨e, y⟩ => by
    obtain ⟨u, hu, ru⟩ := Paired.at_ r h
    have y' := y vs (SqL.of (W.of (s _ _ hq) nodl))
    rw [hu] at y'
    rw [e, ← Option.some.inj y']
    exact ⟨G2, W, Stp.refl _ _ _, A.mono s ru⟩
  stop := fun G2 H2 W s => ⟨vs, SqL.of (W.of (s _ _ hq) nodl), by rw [r.length]; exact Nat.le_refl _⟩
theorem it_tup {K : PySem.W.Frag} {G : Hp} {q : Addr} {vs : List V} {xs : List α} (hq : G q = some (.tup vs)) (r : Paired (A.rep G) vs xs) : ItOk z G (Itt K q) A xs where
  go := fun i x G2 H2 W s h => by
    obtain ⟨v, hv, _⟩ := Paired.at_ r h
    exact ⟨vs, v, SqT.of (W.of (s _ _ hq) nodt), hv⟩
  yld := fun i x G2 H2 v H3 W s h ⟨e, y⟩ => by
    obtain ⟨u, hu, ru⟩ := Paired.at_ r h
    have y' := y vs (SqT.of (W.of (s _ _ hq) nodt))
    rw [hu] at y'
    rw [e, ← Option.some.inj y']
    exact ⟨G2, W, Stp.refl _ _ _, A.mono s ru⟩
  stop := fun G2 H2 W s => ⟨vs, SqT.of (W.of (s _ _ hq) nodt), by rw [r.length]; exact Nat.le_refl _⟩
theorem xi_list (h : XE X z Γ e (tyL A) wl) : XI X z Γ tg e A wl := fun G0 H0 σ G H k R E hw hk =>
  ⟨_, pi_list re, h G0 H0 σ G H k _ E hw fun G1 H1 v xs W1 S1 ⟨q, vs, ev, hq, r⟩ h1 => ⟨q, ev, ⟨vs, SqL.of (W1.of hq nodl)⟩, hk G1 H1 _ xs W1 S1 (it_list hq r) h1⟩⟩
theorem xi_tup (h : XE X z Γ e (tyP A) wl) : XI X z Γ tg e A wl := fun G0 H0 σ G H k R E hw hk =>
  ⟨_, pi_tup re, h G0 H0 σ G H k _ E hw fun G1 H1 v xs W1 S1 ⟨q, vs, ev, hq, r⟩ h1 => ⟨q, ev, ⟨vs, SqT.of (W1.of hq nodt)⟩, hk G1 H1 _ xs W1 S1 (it_tup hq r) h1⟩⟩
/-- lo, lo + 1, .. -/
def rng (lo : Int) (n : Nat) : List Int := (List.range n).map fun (i : Nat) => lo + (i : Int)
theorem rng_at {lo : Int} {n i : Nat} {x : Int} (h : (rng lo n)[i]? = some x) : i < n ∧ x = lo + (i : Int) := by
  unfold rng at h
  rw [List.getElem?_map] at h
  by_cases hi : i < n
  · rw [List.getElem?_range hi] at h
    exact ⟨hi, (Option.some.inj h).symm⟩
  · rw [List.getElem?_eq_none (by rw [List.length_range]; omega)] at h
    cases h
theorem rng_length {lo : Int} {n : Nat} : (rng lo n).length = n := by unfold rng; rw [List.length_map, List.length_range]
theorem it_rng {G : Hp} {lo : Int} {n : Nat} : ItOk z G (Itr lo n) tyI (rng lo n) where
  go := fun i x G2 H2 W s h => (rng_at h).1
  yld := fun i x G2 H2 v H3 W s h ⟨e, y⟩ => by
    rw [e]
    exact ⟨G2, W, Stp.refl _ _ _, by rw [y, (rng_at h).2]; rfl⟩
  stop := fun G2 H2 W s => by rw [rng_length]; exact Nat.le_refl _
theorem xi_range (hm : X.mg "range" = none) (h : XE X z Γ a tyI wi) (hg : Gl X "range" := by rfl) (hs : starEach (a :: []) X.env = (false, eval a X.env) :: starEach [] X.env := by rfl) :
    XI X z Γ tg (.Call (.Name "range" p) [a] [] pos) tyI (fun k => wi fun n => (-(2 ^ 62) ≤ n ∧ n < 2 ^ 62) ∧ k (rng 0 n.toNat)) := fun G0 H0 σ G H k R E hw hk =>
  ⟨_, pi_range1 hg hm (pa_cons re pa_nil hs) hs, h G0 H0 σ G H _ _ E hw fun G1 H1 v n W1 S1 r ⟨hb, h1⟩ => ⟨n, by rw [show v = V.int n from r], hb.1, hb.2, hk G1 H1 _ _ W1 S1 it_rng h1⟩⟩
theorem xi_range2 (hm : X.mg "range" = none) (h : XE X z Γ a tyI wi) (h2 : XE X z Γ b tyI wj) (hg : Gl X "range" := by rfl) (hs : starEach (a :: [b]) X.env = (false, eval a X.env) :: starEach [b] X.env := by rfl) (hs2 : starEach (b :: []) X.env = (false, eval b X.env) :: starEach [] X.env := by rfl) :
    XI X z Γ tg (.Call (.Name "range" p) [a, b] [] pos) tyI (fun k => wi fun m => wj fun n => (-(2 ^ 62) ≤ m ∧ m < 2 ^ 62 ∧ -(2 ^ 62) ≤ n ∧ n < 2 ^ 62) ∧ k (rng m (n - m).toNat)) := fun G0 H0 σ G H k R E hw hk =>
  ⟨_, pi_range2 hg hm (pa_cons re (pa_cons re pa_nil hs2) hs) (hs.trans (by rw [hs2] <;> rfl)) (hs2.trans rfl), h G0 H0 σ G H _ _ E hw fun G1 H1 v m W1 S1 r h1 => h2 G0 H0 σ G1 H1 _ _ (E.step W1 S1) h1 fun G2 H2 u n W2 S2 r2 ⟨hb, h2⟩ =>
    ⟨m, n, by rw [show v = V.int m from r, show u = V.int n from r2], hb, hk G2 H2 _ _ W2 (S1.trans S2) it_rng h2⟩⟩
/-- a text's signs -/
def signs (s : Str) : List Str := s.cps.toList.map fun c => ⟨#[c]⟩
theorem it_str {G : Hp} {s : Str} (hs : sOk s = true) : ItOk z G (Its s) tyS (signs s) where
  go := fun i x G2 H2 W _ h => by
    have l := (List.getElem?_eq_some_iff.mp h).1
    unfold signs at l
    rw [List.length_map, Array.length_toList] at l
    exact l
  yld := fun i x G2 H2 v H3 W _ h ⟨e, c, y1, y2⟩ => by
    rw [e]
    refine ⟨G2, W, Stp.refl _ _ _, ?_⟩
    unfold signs at h
    rw [List.getElem?_map, Array.getElem?_toList, y1] at h
    rw [y2, ← Option.some.inj h]
    exact ⟨rfl, sok_one hs (by rw [← Array.getElem?_toList] at y1; exact List.mem_of_getElem? y1)⟩
  stop := fun G2 H2 W _ => by
    show s.cps.size ≤ _
    unfold signs
    rw [List.length_map, Array.length_toList]
    exact Nat.le_refl _
theorem xi_str (h : XE X z Γ e tyS ws) : XI X z Γ tg e tyS (fun k => ws fun s => k (signs s)) := fun G0 H0 σ G H k R E hw hk =>
  ⟨_, pi_str re, h G0 H0 σ G H _ _ E hw fun G1 H1 v s W1 S1 r h1 => ⟨s, r.1, hk G1 H1 _ _ W1 S1 (it_str r.2) h1⟩⟩

/-! ### new lists -/
def XF (X : Cx) (z : Zs) (Γ : List Sl) (e : Expr) {α : Type} (A : Ty α) (w : (List α → Prop) → Prop) : Prop :=
  ∀ (G0 H0 : Hp) (σ : L2.St) (G H : Hp) (k : List α → Prop) (Q : VK), Ev z G0 H0 G H σ Γ → w k →
    (∀ G' H' q vs xs, Wd z G' H' → Stp z G H G' H' → H q = none → G' q = none → H' q = some (.lst vs) → Paired (A.rep G') vs xs → k xs → Q (.ref q) H') → RE X e σ H Q
theorem Ev.nz {G0 H0 G H : Hp} {σ : L2.St} (E : Ev z G0 H0 G H σ Γ) {q : Addr} (hq : H q = none) : z.at_ ≠ some q := E.znew hq
theorem xe_f (h : XF X z Γ e A wl) : XE X z Γ e (tyL A) wl := fun G0 H0 σ G H k Q E hw hk =>
  h G0 H0 σ G H k Q E hw fun G1 H1 q vs xs W1 S1 nq gq hq r h1 =>
    hk (upd G1 q (.lst vs)) H1 _ xs (W1.frz hq gq (E.nz nq)) ⟨S1.g.trans (same_new gq), S1.h, fun a o ha ga => by
      rw [upd_ne (ne_of_none ha nq)]
      exact S1.n a o ha ga, S1.t⟩ ⟨q, vs, rfl, upd_same, Paired.mono (fun _ _ => A.mono (same_new gq)) r⟩ h1
theorem xl_f (h : XF X z Γ e A wl) : XL X z Γ e A wl := xl_of (xe_f h)
/-- from a new object that was made last -/
theorem xf_last {G H G1 H1 : Hp} {k : List α → Prop} {Q : VK} {vs : List V} {xs : List α} (W1 : Wd z G1 H1) (S1 : Stp z G H G1 H1) (r : Paired (A.rep G1) vs xs) (h1 : k xs)
    (hk : ∀ G' H' q vs xs, Wd z G' H' → Stp z G H G' H' → H q = none → G' q = none → H' q = some (.lst vs) → Paired (A.rep G') vs xs → k xs → Q (.ref q) H') : ∀ q, H1 q = none → Q (.ref q) (upd H1 q (.lst vs)) := fun q nq =>
  hk G1 _ q vs xs (W1.own nq) (S1.trans (Stp.own nq)) (by
    cases e : H q with
    | none => rfl
    | some o =>
      obtain ⟨o', e'⟩ := S1.t q o e
      rw [nq] at e'
      cases e') (W1.gh.free nq) upd_same r h1
variable {Rl : Row (List α)}
theorem xf_lst [Alike A Rl] (h : XA X z Γ es Rl wl) (hn : Rl.n ≤ sizeLine := by first | (show _ ≤ _; decide) | exact Nat.le_of_ble_eq_true rfl) : XF X z Γ (.List es pos) A wl := fun G0 H0 σ G H k Q E hw hk =>
  ⟨_, pe_lst ra, h G0 H0 σ G H _ _ E hw fun G1 H1 vs x W1 S1 r1 h1 => ⟨by rw [Rl.len r1]; exact hn, xf_last W1 S1 (Alike.to r1) h1 hk⟩⟩
theorem xf_nil : XF X z Γ (.List [] pos) A (fun k => k []) := fun G0 H0 σ G H k Q E hw hk => ⟨_, pe_lst pa_nil, ⟨Nat.zero_le _, xf_last E.wd (Stp.refl _ _ _) .nil hw hk⟩⟩
theorem xf_slL {lo hi : Option Expr} {wlo whi : (Option Int → Prop) → Prop} {p2 : Pos} (h : XL X z Γ a A wl) (h1 : XO X z Γ lo wlo) (h2 : XO X z Γ hi whi) : XF X z Γ (.Subscript a (.Slice lo hi none p2) pos) A (fun k => wl fun xs => wlo fun l => whi fun u => k (cutA xs l u)) := fun G0 H0 σ G H k Q E hw hk =>
  ⟨_, pe_slice sl_list re ro ro, h G0 H0 σ G H _ _ E hw fun G1 H1 q vs xs W1 S1 sq r g1 => h1.ro (E.step W1 S1) g1 fun G2 H2 l W2 S2 g2 => h2.ro (E.step W2 (S1.trans S2)) g2 fun G3 H3 u W3 S3 g3 =>
    ⟨q, vs, rfl, SqL.of ((sq.step S2).step S3).r, xf_last W3 ((S1.trans S2).trans S3) (Paired.mono (fun _ _ => A.mono (S2.g.trans S3.g)) (Paired.cut r l u)) g3 hk⟩⟩
theorem xf_cat {wl2 : (List α → Prop) → Prop} (h : XL X z Γ a A wl) (h2 : XL X z Γ b A wl2) : XF X z Γ (.BinOp a .Add b pos) A (fun k => wl fun xs => wl2 fun ys => xs.length + ys.length ≤ sizeLine ∧ k (xs ++ ys)) := fun G0 H0 σ G H k Q E hw hk =>
  ⟨_, pe_op op_cat re re, h G0 H0 σ G H _ _ E hw fun G1 H1 q vs xs W1 S1 sq r g1 => h2 G0 H0 σ G1 H1 _ _ (E.step W1 S1) g1 fun G2 H2 q2 vs2 ys W2 S2 sq2 r2 ⟨hl, g2⟩ =>
    ⟨q, q2, vs, vs2, rfl, rfl, (sq.step S2).r, sq2.r, by rw [r.length, r2.length]; exact hl, xf_last W2 (S1.trans S2) (Paired.app (Paired.mono (fun _ _ => A.mono S2.g) r) r2) g2 hk⟩⟩
theorem xf_listL (hm : X.mg "list" = none) (h : XL X z Γ a A wl) (hg : Gl X "list" := by rfl) (hs : starEach (a :: []) X.env = (false, eval a X.env) :: starEach [] X.env := by rfl) : XF X z Γ (.Call (.Name "list" p) [a] [] pos) A wl := fun G0 H0 σ G H k Q E hw hk =>
  ⟨_, pe_callTy call_list_of hg hm (by decide +kernel) (pa_cons re pa_nil hs) (by decide) (by decide) hs rfl, h G0 H0 σ G H _ _ E hw fun G1 H1 q vs xs W1 S1 sq r h1 => ⟨q, vs, rfl, .inl (SqL.of sq.r), xf_last W1 S1 r h1 hk⟩⟩
theorem xf_listP (hm : X.mg "list" = none) (h : XE X z Γ a (tyP A) wl) (hg : Gl X "list" := by rfl) (hs : starEach (a :: []) X.env = (false, eval a X.env) :: starEach [] X.env := by rfl) : XF X z Γ (.Call (.Name "list" p) [a] [] pos) A wl := fun G0 H0 σ G H k Q E hw hk =>
  ⟨_, pe_callTy call_list_of hg hm (by decide +kernel) (pa_cons re pa_nil hs) (by decide) (by decide) hs rfl, h G0 H0 σ G H _ _ E hw fun G1 H1 v xs W1 S1 ⟨q, vs, ev, hq, r⟩ h1 => ⟨q, vs, by rw [ev], .inr (SqT.of (W1.of hq nodt)), xf_last W1 S1 r h1 hk⟩⟩
theorem xe_tupleL (hm : X.mg "tuple" = none) (h : XL X z Γ a A wl) (hg : Gl X "tuple" := by rfl) (hs : starEach (a :: []) X.env = (false, eval a X.env) :: starEach [] X.env := by rfl) : XE X z Γ (.Call (.Name "tuple" p) [a] [] pos) (tyP A) wl := fun G0 H0 σ G H k Q E hw hk =>
  ⟨_, pe_callTy call_tuple_of hg hm (by decide +kernel) (pa_cons re pa_nil hs) (by decide) (by decide) hs rfl, h G0 H0 σ G H _ _ E hw fun G1 H1 q vs xs W1 S1 sq r h1 => ⟨q, vs, rfl, .inl ⟨SqL.of sq.r, fun l nl =>
    hk _ _ _ xs (W1.new nl) (S1.trans (Stp.new W1.gh nl)) ⟨l, vs, rfl, upd_same, Paired.mono (fun _ _ => A.mono (same_new (W1.gh.free nl))) r⟩ h1⟩⟩⟩
theorem xe_sum (hc : X.calm = true) (hm : X.mg "sum" = none) {wn : (List Int → Prop) → Prop} (h : XL X z Γ a tyI wn) (hg : Gl X "sum" := by rfl) (hs : starEach (a :: []) X.env = (false, eval a X.env) :: starEach [] X.env := by rfl) : XE X z Γ (.Call (.Name "sum" p) [a] [] pos) tyI (fun k => wn fun xs => k xs.sum) := fun G0 H0 σ G H k Q E hw hk =>
  ⟨_, pe_callB (cr_sum hc) hg hm (by decide +kernel) (pa_cons re pa_nil hs) (by decide) (by decide) hs rfl, h G0 H0 σ G H _ _ E hw fun G1 H1 q vs xs W1 S1 sq r h1 => ⟨q, xs, rfl, by rw [← paired_ints r]; exact SqL.of sq.r, hk G1 H1 _ _ W1 S1 rfl h1⟩⟩
end
end Zk
/-! TL6: statements, loops, comprehensions. -/
namespace Zk
open PySem PySem.Spec L2
section
variable {X : Cx} {z : Zs} {Γ Γ1 : List Sl} {ct : Ct} {a b c e o tg iter : Expr} {rest body orelse : List Stmt} {α β τ : Type} {A : Ty α} {B : Ty β} {pos p p' p2 : Pos} {x m : Str} {w : Prop}
  {wa : (α → Prop) → Prop} {wl : (List α → Prop) → Prop} {wi : (Int → Prop) → Prop} {ws : (Str → Prop) → Prop} {wc : (Bool → Prop) → Prop}

theorem xb_imp {w' : Prop} (f : w → w') (h : XB X z ct Γ rest w') : XB X z ct Γ rest w := fun G0 H0 D σ G H M E hw => h G0 H0 D σ G H M E (f hw)
theorem xb_by {w' : Prop} (h : XB X z ct Γ rest w') (f : w → w') : XB X z ct Γ rest w := xb_imp f h
theorem xb_nil : XB X z ct Γ [] (ct.n Γ) := fun G0 H0 D σ G H M E hw => ⟨_, pss_nil, M.n σ G H Γ E hw⟩
theorem xb_cv (h : Cv Γ Γ1) (hr : XB X z ct Γ1 rest w) : XB X z ct Γ rest w := fun G0 H0 D σ G H M E hw => by
  obtain ⟨G1, s, E1⟩ := h z G0 H0 G H σ E
  exact hr G0 H0 D σ G1 H M E1 hw
/-- the end of a branch: into the common shape -/
theorem xb_join {ΓJ : τ → List Sl} {wj : τ → Prop} (s : τ) (h : Cv Γ (ΓJ s)) (hn : ct.n = J ΓJ wj) : XB X z ct Γ [] (wj s) := fun G0 H0 D σ G H M E hw => by
  obtain ⟨G1, sg, E1⟩ := h z G0 H0 G H σ E
  exact ⟨_, pss_nil, M.n σ G1 H _ E1 (by rw [hn]; exact ⟨s, rfl, hw⟩)⟩
theorem xb_pass (hr : XB X z ct Γ rest w) : XB X z ct Γ (.Pass pos :: rest) w := fun G0 H0 D σ G H M E hw => ⟨_, pss_cons ps_pass rs, hr G0 H0 D σ G H M E hw⟩
theorem xb_doc {j} (hr : XB X z ct Γ rest w) : XB X z ct Γ (.Expr (.Constant (.str x) j p) pos :: rest) w := fun G0 H0 D σ G H M E hw => ⟨_, pss_cons ps_doc rs, hr G0 H0 D σ G H M E hw⟩
theorem xb_break {ΓJ : τ → List Sl} {wj : τ → Prop} (s : τ) (h : Cv Γ (ΓJ s)) (hn : ct.b = J ΓJ wj) : XB X z ct Γ (.Break pos :: rest) (wj s) := fun G0 H0 D σ G H M E hw => by
  obtain ⟨G1, sg, E1⟩ := h z G0 H0 G H σ E
  exact ⟨_, pss_cons ps_break rs, M.b σ G1 H _ E1 (by rw [hn]; exact ⟨s, rfl, hw⟩)⟩
theorem xb_continue {ΓJ : τ → List Sl} {wj : τ → Prop} (s : τ) (h : Cv Γ (ΓJ s)) (hn : ct.c = J ΓJ wj) : XB X z ct Γ (.Continue pos :: rest) (wj s) := fun G0 H0 D σ G H M E hw => by
  obtain ⟨G1, sg, E1⟩ := h z G0 H0 G H σ E
  exact ⟨_, pss_cons ps_continue rs, M.c σ G1 H _ E1 (by rw [hn]; exact ⟨s, rfl, hw⟩)⟩
/-- a statement that is never come to -/
theorem xb_never {st : Stmt} : XB X z ct Γ (st :: rest) False := fun G0 H0 D σ G H M E hw => hw.elim
/-- name = e -/
theorem xb_set (i : Nat) {wk : α → Prop} (hN : X.N.Nodup) (hi : X.N[i]? = some x) (hx : Loc X.env.scope x) (he : XE X z Γ e A wa) (hn : ∀ y, XB X z ct (Γ.set i (.fz A y)) rest (wk y))
    (hs : swapsWith e (some (.Name x p')) pos.line X.env = pure false := by rfl) (hf : X.fn x = true ∨ X.env.scope.names.lookup x = some .local := by first | exact .inl rfl | exact .inr rfl) :
    XB X z ct Γ (.Assign [.Name x p'] e pos :: rest) (wa wk) := fun G0 H0 D σ G H M E hw =>
  ⟨_, pss_cons (ps_set hN hi hx re hs hf) rs, he G0 H0 σ G H wk _ E hw fun G1 H1 v y W1 S1 r h1 => hn y G0 H0 D _ G1 H1 M ((E.step W1 S1).fz i r) h1⟩
theorem SlOk.ml_of {G0 H0 G H G1 H1 : Hp} {σ : L2.St} (E : Ev z G0 H0 G H σ Γ) {q : Addr} {vs : List V} {xs : List α} (nq : H q = none) (gq : G1 q = none) (hq : H1 q = some (.lst vs)) (r : Paired (A.rep G1) vs xs) : SlOk z H0 G1 H1 (some (.ref q)) (.ml A xs) :=
  ⟨q, vs, rfl, ⟨gq, E.znew nq, E.h0new nq, hq⟩, r⟩
theorem Ev.takeOwn {G0 H0 G H G1 H1 : Hp} {σ : L2.St} (E : Ev z G0 H0 G H σ Γ) (W1 : Wd z G1 H1) (S1 : Stp z G H G1 H1) (i : Nat) {q : Addr} (nq : H q = none) {S : Sl} (hS : SlOk z H0 G1 H1 (some (.ref q)) S) (ha : S.adr = true := by rfl) : Ev z G0 H0 G1 H1 (σ.set i (some (.ref q))) (Γ.set i S) :=
  (E.step W1 S1).setOwn i hS fun j T o' l hj h1 h2 h3 h4 => by
    have e := fp_adr h3 ha
    subst e
    obtain ⟨u, o⟩ := (E.sl j T _ h1 h2).tracked h4
    have oh := o.h
    rw [nq] at oh
    cases oh
/-- name = a new list that stays one's own -/
theorem xb_setF (i : Nat) {wk : List α → Prop} (hN : X.N.Nodup) (hi : X.N[i]? = some x) (hx : Loc X.env.scope x) (he : XF X z Γ e A wl) (hn : ∀ y, XB X z ct (Γ.set i (.ml A y)) rest (wk y))
    (hs : swapsWith e (some (.Name x p')) pos.line X.env = pure false := by rfl) (hf : X.fn x = true ∨ X.env.scope.names.lookup x = some .local := by first | exact .inl rfl | exact .inr rfl) :
    XB X z ct Γ (.Assign [.Name x p'] e pos :: rest) (wl wk) := fun G0 H0 D σ G H M E hw =>
  ⟨_, pss_cons (ps_set hN hi hx re hs hf) rs, he G0 H0 σ G H wk _ E hw fun G1 H1 q vs xs W1 S1 nq gq hq r h1 => hn xs G0 H0 D _ G1 H1 M (E.takeOwn W1 S1 i nq (SlOk.ml_of E nq gq hq r)) h1⟩
/-- name = {} -/
theorem xb_newD (i : Nat) (A : Ty α) (hN : X.N.Nodup) (hi : X.N[i]? = some x) (hx : Loc X.env.scope x) (hn : XB X z ct (Γ.set i (.md A [])) rest w)
    (hs : swapsWith (.Dict [] [] p) (some (.Name x p')) pos.line X.env = pure false := by rfl) (hf : X.fn x = true ∨ X.env.scope.names.lookup x = some .local := by first | exact .inl rfl | exact .inr rfl) :
    XB X z ct Γ (.Assign [.Name x p'] (.Dict [] [] p) pos :: rest) w := fun G0 H0 D σ G H M E hw =>
  ⟨_, pss_cons (ps_set hN hi hx pe_dnewK hs hf) rs, fun q nq => hn G0 H0 D _ G _ M (E.takeOwn (E.wd.own nq) (Stp.own nq) i nq ⟨q, [], rfl, E.ownNew nq, .nil⟩) hw⟩
/-- name.append(e) -/
theorem xb_app (i : Nat) {xs : List α} {wk : α → Prop} {apos cpos : Pos} (hΓ : Γ[i]? = some (.ml A xs)) (hN : X.N[i]? = some x) (hv : Vis X.env.scope x) (he : XE X z Γ e A wa) (hn : ∀ y, XB X z ct (Γ.set i (.ml A (xs ++ [y]))) rest (wk y))
    (hs : starEach (e :: []) X.env = (false, eval e X.env) :: starEach [] X.env := by rfl)
    (hbase : attributeBase (.Name x p) "append" X.env (eval (.Name x p) X.env) = eval (.Name x p) X.env := by rfl)
    (hfew : ((backTo cpos (starEach (e :: []) X.env)).all (fun x => !x.1) && (backToKw cpos (keywordEach [] X.env)).all (fun x => x.1.isSome)
      && decide ((e :: []).length + ([] : List Keyword).length + (if ([] : List Keyword).isEmpty then 0 else 1) < 30)) = true := by rfl)
    (hline : (apos.endLine == cpos.line) = true := by rfl) (hsw : swapsWith (.Call (.Attribute (.Name x p) "append" apos) [e] [] cpos) none pos.line X.env = pure false := by rfl)
    (hd : (x == ("__debug__" : Str)) = false := by decide) (hcd : (x == ("__classdict__" : Str)) = false := by decide) :
    XB X z ct Γ (.Expr (.Call (.Attribute (.Name x p) "append" apos) [e] [] cpos) pos :: rest) (wa fun y => xs.length < sizeLine ∧ wk y) := fun G0 H0 D σ G H M E hw => by
  obtain ⟨ov, eo, l, vs, rfl, r, q⟩ := E.at_ hΓ
  refine ⟨_, pss_cons (ps_expr (pe_bm PySem.F.plainAttrs_list PySem.F.slot_list_append PySem.F.type_list_append mt_append (pe_var hN hv hd hcd) (pa_cons re pa_nil hs) hbase hfew hline hs rfl) hsw) rs, ?_⟩
  refine ⟨_, eo, .inl ⟨rfl, vs, SqL.of r.h⟩, he G0 H0 σ G H _ _ E hw fun G1 H1 v y W1 S1 ry ⟨hl, h1⟩ => ?_⟩
  have r1 := r.step S1
  refine ⟨l, vs, v, rfl, rfl, r1.h, by rw [q.length]; exact hl, ?_⟩
  exact hn y G0 H0 D σ G1 _ M ((E.step W1 S1).mut hΓ eo rfl r1 ⟨l, _, rfl, ⟨r1.g, r1.z, r1.h0, upd_same⟩, Paired.app (Paired.mono (fun _ _ => A.mono S1.g) q) (.cons ry .nil)⟩) h1
theorem Paired.set {F : V → β → Prop} : ∀ {l : List V} {m : List β} {v : V} {y : β} (n : Nat), Paired F l m → F v y → Paired F (l.set n v) (m.set n y)
  | _, _, _, _, _, .nil, _ => .nil
  | _, _, _, _, 0, .cons _ t, h => .cons h t
  | _, _, _, _, n + 1, .cons r t, h => .cons r (Paired.set n t h)
/-- name[b] = e -/
theorem xb_setL (i : Nat) {xs : List α} {wk : List α → Prop} (hΓ : Γ[i]? = some (.ml A xs)) (hN : X.N[i]? = some x) (hv : Vis X.env.scope x) (he : XE X z Γ e A wa) (hb : XE X z Γ b tyI wi) (hn : ∀ ys, XB X z ct (Γ.set i (.ml A ys)) rest (wk ys))
    (hs : swapsWithSole [.Subscript (.Name x p) b p2] e pos.line X.env = pure false := by rfl) (hw2 : swappedStores [.Subscript (.Name x p) b p2] e X.env = pure none := by rfl)
    (h1 : (assignEach [.Subscript (.Name x p) b p2] X.env).map (·.2) = [assign (.Subscript (.Name x p) b p2) X.env] := by rfl)
    (ha : ∀ v, assign (.Subscript (.Name x p) b p2) X.env v = (do
      let ov ← holding [v] (eval (.Name x p) X.env)
      let iv ← holding [v, ov] (eval b X.env)
      standAt p2
      holding [v, ov, iv] (setItem ov iv v)
      release [v, ov, iv] []) := by intro _; rfl) (hd : (x == ("__debug__" : Str)) = false := by decide) (hcd : (x == ("__classdict__" : Str)) = false := by decide) :
    XB X z ct Γ (.Assign [.Subscript (.Name x p) b p2] e pos :: rest) (wa fun y => wi fun j => ∃ n, ixN xs.length j = some n ∧ wk (xs.set n y)) := fun G0 H0 D σ G H M E hw => by
  obtain ⟨ov, eo, l, vs, rfl, r, q⟩ := E.at_ hΓ
  refine ⟨_, pss_cons (ps_asg re (pg_sub (pe_var hN hv hd hcd) re set_list ha) hs hw2 h1) rs, ?_⟩
  refine he G0 H0 σ G H _ _ E hw fun G1 H1 v y W1 S1 ry g1 => ?_
  refine ⟨_, eo, hb G0 H0 σ G1 H1 _ _ (E.step W1 S1) g1 fun G2 H2 u j W2 S2 rj ⟨n, en, g2⟩ => ?_⟩
  have r1 := r.step (S1.trans S2)
  refine ⟨l, vs, j, n, rfl, rj, r1.h, by rw [q.length]; exact en, ?_⟩
  exact hn _ G0 H0 D σ G2 _ M ((E.step W2 (S1.trans S2)).mut hΓ eo rfl r1 ⟨l, _, rfl, ⟨r1.g, r1.z, r1.h0, upd_same⟩, Paired.set n (Paired.mono (fun _ _ => A.mono (S1.g.trans S2.g)) q) (A.mono S2.g ry)⟩) g2
/-- d[s] = y -/
def put {α : Type} (d : List (Str × α)) (s : Str) (y : α) : List (Str × α) :=
  if (d.any fun kv => decide (kv.1 = s)) = true then d.map (fun kv => if kv.1 = s then (kv.1, y) else kv) else d ++ [(s, y)]
theorem kv_any {G : Hp} (s : Str) : ∀ {ks : List (Key × V)} {d : List (Str × α)}, Paired (kvR A G) ks d → (ks.any fun kv => decide (kv.1 = .inr s)) = d.any fun kv => decide (kv.1 = s)
  | _, _, .nil => rfl
  | _, _, .cons (a := k) (b := d) r t => by
    rw [List.any_cons, List.any_cons, kv_any s t, r.1.1]
    by_cases h : d.1 = s
    · rw [decide_eq_true h, decide_eq_true (by rw [h])]
    · rw [decide_eq_false h, decide_eq_false fun e => h (by injection e)]
theorem kv_map {G : Hp} (s : Str) {v : V} {y : α} (hv : A.rep G v y) : ∀ {ks : List (Key × V)} {d : List (Str × α)}, Paired (kvR A G) ks d → Paired (kvR A G) (ks.map fun kv => if kv.1 = .inr s then (kv.1, v) else kv) (d.map fun kv => if kv.1 = s then (kv.1, y) else kv)
  | _, _, .nil => .nil
  | _, _, .cons (a := k) (b := d) r t => by
    rw [List.map_cons, List.map_cons]
    refine .cons ?_ (kv_map s hv t)
    by_cases h : d.1 = s
    · rw [if_pos h, if_pos (by rw [r.1.1, h])]
      exact ⟨r.1, hv⟩
    · rw [if_neg h, if_neg fun e => h (by rw [r.1.1] at e; injection e)]
      exact r
theorem kv_put {G : Hp} (s : Str) (hs : sOk s = true) {v : V} {y : α} (hv : A.rep G v y) {ks : List (Key × V)} {d : List (Str × α)} (r : Paired (kvR A G) ks d) : Paired (kvR A G) (putK ks (.inr s) v) (put d s y) := by
  unfold putK put
  rw [kv_any s r]
  by_cases h : (d.any fun kv => decide (kv.1 = s)) = true
  · rw [if_pos h, if_pos h]
    exact kv_map s hv r
  · rw [if_neg h, if_neg h]
    exact Paired.app r (.cons ⟨⟨rfl, hs⟩, hv⟩ .nil)
theorem xb_put (i : Nat) {d : List (Str × α)} {wk : List (Str × α) → Prop} (hu : X.A.units + 1 < cLine) (hΓ : Γ[i]? = some (.md A d)) (hN : X.N[i]? = some x) (hv : Vis X.env.scope x) (he : XE X z Γ e A wa) (hb : XE X z Γ b tyS ws) (hn : ∀ ys, XB X z ct (Γ.set i (.md A ys)) rest (wk ys))
    (hs : swapsWith e (some (.Subscript (.Name x p) b p2)) pos.line X.env = pure false := by rfl) (hd : (x == ("__debug__" : Str)) = false := by decide) (hcd : (x == ("__classdict__" : Str)) = false := by decide) :
    XB X z ct Γ (.Assign [.Subscript (.Name x p) b p2] e pos :: rest) (wa fun y => ws fun s => d.length < sizeLine ∧ wk (put d s y)) := fun G0 H0 D σ G H M E hw => by
  obtain ⟨ov, eo, l, ks, rfl, r, q⟩ := E.at_ hΓ
  refine ⟨_, pss_cons (ps_dput hu (pe_var hN hv hd hcd) re re hs) rs, ?_⟩
  refine he G0 H0 σ G H _ _ E hw fun G1 H1 v y W1 S1 ry g1 => ?_
  refine ⟨_, eo, hb G0 H0 σ G1 H1 _ _ (E.step W1 S1) g1 fun G2 H2 u s W2 S2 rs' ⟨hl, g2⟩ => ?_⟩
  have r1 := r.step (S1.trans S2)
  refine ⟨l, _, rfl, by rw [show u = V.str s from rs'.1]; exact .inl ⟨ks, .inr s, r1.h, rfl, by rw [q.length]; exact hl, rfl⟩, ?_⟩
  exact hn _ G0 H0 D σ G2 _ M ((E.step W2 (S1.trans S2)).mut hΓ eo rfl r1 ⟨l, _, rfl, ⟨r1.g, r1.z, r1.h0, upd_same⟩, kv_put s rs'.2 (A.mono S2.g ry) (Paired.mono (fun _ _ z => ⟨z.1, A.mono (S1.g.trans S2.g) z.2⟩) q)⟩) g2
/-- an expression whose value is dropped -/
theorem xb_expr {wk : Prop} (he : XE X z Γ e A wa) (hn : XB X z ct Γ rest wk) (hs : swapsWith e none pos.line X.env = pure false := by rfl) : XB X z ct Γ (.Expr e pos :: rest) (wa fun _ => wk) := fun G0 H0 D σ G H M E hw =>
  ⟨_, pss_cons (ps_expr re hs) rs, he G0 H0 σ G H _ _ E hw fun G1 H1 v y W1 S1 r h1 => hn G0 H0 D σ G1 H1 M (E.step W1 S1) h1⟩
theorem xb_ret {wb : (ct.β → Prop) → Prop} (he : XE X z Γ e ct.B wb) : XB X z ct Γ (.Return (some e) pos :: rest) (wb (ct.r Γ)) := fun G0 H0 D σ G H M E hw =>
  ⟨_, pss_cons (ps_ret re) rs, he G0 H0 σ G H _ _ E hw fun G1 H1 v y W1 S1 r h1 => M.r σ G1 H1 Γ v y (E.step W1 S1) r h1⟩
/-- if, both ways into a common shape -/
theorem xb_if (ΓJ : τ → List Sl) (wj : τ → Prop) {w1 w2 : Prop} (hc : XT X z Γ c wc) (h1 : XB X z { ct with n := J ΓJ wj } Γ body w1) (h2 : XB X z { ct with n := J ΓJ wj } Γ orelse w2) (hr : ∀ s, XB X z ct (ΓJ s) rest (wj s)) :
    XB X z ct Γ (.If c body orelse pos :: rest) (wc fun b => if b = true then w1 else w2) := fun G0 H0 D σ G H M E hw => by
  have M' : Meets z G0 H0 { D with nx := RS X rest D } { ct with n := J ΓJ wj } := ⟨fun σ' G' H' Γ' E' ⟨s, e, q⟩ => by subst e; exact hr s G0 H0 D σ' G' H' M E' q, M.b, M.c, M.r⟩
  refine ⟨_, pss_cons (ps_if rt rs rs) rs, hc G0 H0 σ G H _ _ E hw fun G1 H1 b W1 S1 g1 => ?_⟩
  cases b with
  | true => exact h1 G0 H0 _ σ G1 H1 M' (E.step W1 S1) g1
  | false => exact h2 G0 H0 _ σ G1 H1 M' (E.step W1 S1) g1
/-- if whose first way never comes out of its end, without else -/
theorem xb_if1 {w1 w2 : Prop} (hc : XT X z Γ c wc) (h1 : XB X z { ct with n := fun _ => False } Γ body w1) (hr : XB X z ct Γ rest w2) : XB X z ct Γ (.If c body [] pos :: rest) (wc fun b => if b = true then w1 else w2) := fun G0 H0 D σ G H M E hw => by
  have M' : Meets z G0 H0 { D with nx := RS X rest D } { ct with n := fun _ => False } := ⟨fun _ _ _ _ _ q => q.elim, M.b, M.c, M.r⟩
  refine ⟨_, pss_cons (ps_if rt rs rs) rs, hc G0 H0 σ G H _ _ E hw fun G1 H1 b W1 S1 g1 => ?_⟩
  cases b with
  | true => exact h1 G0 H0 _ σ G1 H1 M' (E.step W1 S1) g1
  | false => exact ⟨_, pss_nil, hr G0 H0 D σ G1 H1 M (E.step W1 S1) g1⟩
/-- if, neither way comes out of its end -/
theorem xb_if2 {w1 w2 : Prop} (hc : XT X z Γ c wc) (h1 : XB X z { ct with n := fun _ => False } Γ body w1) (h2 : XB X z { ct with n := fun _ => False } Γ orelse w2) : XB X z ct Γ (.If c body orelse pos :: rest) (wc fun b => if b = true then w1 else w2) := fun G0 H0 D σ G H M E hw => by
  have M' : Meets z G0 H0 { D with nx := RS X rest D } { ct with n := fun _ => False } := ⟨fun _ _ _ _ _ q => q.elim, M.b, M.c, M.r⟩
  refine ⟨_, pss_cons (ps_if rt rs rs) rs, hc G0 H0 σ G H _ _ E hw fun G1 H1 b W1 S1 g1 => ?_⟩
  cases b with
  | true => exact h1 G0 H0 _ σ G1 H1 M' (E.step W1 S1) g1
  | false => exact h2 G0 H0 _ σ G1 H1 M' (E.step W1 S1) g1

/-! ### loops -/
/-- for: by an invariant over the turn and what is carried -/
def WFor (xs : List α) (s0 : τ) (wb : (τ → Prop) → τ → α → Prop) (wk : τ → Prop) : Prop :=
  ∃ I : Nat → τ → Prop, I 0 s0 ∧ (∀ i x s, xs[i]? = some x → I i s → wb (I (i + 1)) s x) ∧ ∀ s, I xs.length s → wk s
theorem xb_for {is : List Nat} {ΓT : τ → α → List Sl} {wb : (τ → Prop) → τ → α → Prop} {wk : τ → Prop} (ΓL : τ → List Sl) (s0 : τ) (hp : PassesOwn (model X.prog X.w) X.A X.env X.xe) (hc : X.calm = true) (hi : XI X z Γ tg iter A wl) (cv : Cv Γ (ΓL s0))
    (hg : ∀ s, XG X z (ΓL s) tg A is (ΓT s))
    (hb : ∀ (nx : τ → Prop) s x, XB X z { ct with n := J ΓL nx, c := J ΓL nx, b := J ΓL wk } (ΓT s x) body (wb nx s x)) (hr : ∀ s, XB X z ct (ΓL s) rest (wk s))
    (hs : ∀ x, foldedSetIterable iter X.env x = pure x := by intro _; rfl) : XB X z ct Γ (.For tg iter body [] pos :: rest) (wl fun xs => WFor xs s0 wb wk) := fun G0 H0 D σ G H M E hw => by
  refine ⟨_, pss_cons (ps_for hp hc ri rg rs hs) rs, hi G0 H0 σ G H _ _ E hw fun G1 H1 J' xs W1 S1 ok ⟨I, i0, it, ie⟩ => ?_⟩
  obtain ⟨G2, sg, E2⟩ := cv z G0 H0 G1 H1 σ (E.step W1 S1)
  refine ⟨fun i m σ' H' => ∃ G' s, i ≤ xs.length ∧ m = xs.length - i ∧ Ev z G0 H0 G' H' σ' (ΓL s) ∧ Same G2 G' ∧ I i s, ⟨_, G2, s0, Nat.zero_le _, rfl, E2, Same.refl _, i0⟩, ?_⟩
  rintro i m σ' H' ⟨G', s, hi, rfl, E', sm, q⟩
  have bs := E'.base
  have hn : ∀ {G0' : Hp}, Stp z G0 H0 G0' H' → ∀ σ3 G3 H3 Γ3, Ev z G0' H0 G3 H3 σ3 Γ3 → J ΓL wk Γ3 → RS X rest D σ3 H3 := fun {G0'} st σ3 G3 H3 Γ3 E3 ⟨s3, e3, q3⟩ => by
    subst e3
    exact hr s3 G0 H0 D σ3 G3 H3 M (E3.rebase st) q3
  by_cases hlt : i < xs.length
  · refine .inr ⟨ok.go i xs[i] G' H' E'.wd (sg.trans sm) (by simp [hlt]), fun σ3 H3 => ∃ G3 s3, Ev z G0 H0 G3 H3 σ3 (ΓL s3) ∧ Same G2 G3 ∧ I (i + 1) s3, fun σ3 H3 ⟨G3, s3, E3, sm3, q3⟩ => ⟨xs.length - (i + 1), by omega, G3, s3, hlt, rfl, E3, sm3, q3⟩, fun v H3 y => ?_⟩
    obtain ⟨G3, W3, S3, r3⟩ := ok.yld i xs[i] G' H' v H3 E'.wd (sg.trans sm) (by simp [hlt]) y
    refine hg s G0 H0 σ' G3 H3 v xs[i] _ (E'.step W3 S3) r3 fun σ4 E4 _ => ?_
    have st : Stp z G0 H0 G3 H3 := bs.trans S3
    have M' : Meets z G3 H0 { D with nx := fun σ3 H3 => ∃ G3 s3, Ev z G0 H0 G3 H3 σ3 (ΓL s3) ∧ Same G2 G3 ∧ I (i + 1) s3, ct := fun σ3 H3 => ∃ G3 s3, Ev z G0 H0 G3 H3 σ3 (ΓL s3) ∧ Same G2 G3 ∧ I (i + 1) s3, bk := RS X rest D } { ct with n := J ΓL (I (i + 1)), c := J ΓL (I (i + 1)), b := J ΓL wk } :=
      ⟨fun σ5 G5 H5 Γ5 E5 ⟨s5, e5, q5⟩ => by subst e5; exact ⟨G5, s5, E5.rebase st, sm.trans (S3.g.trans E5.base.g), q5⟩,
       fun σ5 G5 H5 Γ5 E5 q5 => by
        obtain ⟨s5, e5, q5⟩ := q5
        subst e5
        exact hr s5 G0 H0 D σ5 G5 H5 M (E5.rebase st) q5,
       fun σ5 G5 H5 Γ5 E5 ⟨s5, e5, q5⟩ => by subst e5; exact ⟨G5, s5, E5.rebase st, sm.trans (S3.g.trans E5.base.g), q5⟩,
       fun σ5 G5 H5 Γ5 v5 y5 E5 r5 q5 => M.r σ5 G5 H5 Γ5 v5 y5 (E5.rebase st) r5 q5⟩
    exact hb (I (i + 1)) s xs[i] G3 H0 _ σ4 G3 H3 M' E4.debase (it i xs[i] s (by simp [hlt]) q)
  · have e : i = xs.length := by omega
    subst e
    exact .inl ⟨ok.stop G' H' E'.wd (sg.trans sm), hr s G0 H0 D σ' G' H' M E' (ie s q)⟩
/-- while: by an invariant and a measure -/
def WWhile (s0 : τ) (wc : τ → (Bool → Prop) → Prop) (wb : (τ → Prop) → τ → Prop) (wk : τ → Prop) : Prop :=
  ∃ (I : τ → Prop) (μ : τ → Nat), I s0 ∧ ∀ s, I s → wc s fun b => if b = true then wb (fun s' => I s' ∧ μ s' < μ s) s else wk s
theorem xb_while {wb : (τ → Prop) → τ → Prop} {wk : τ → Prop} {wct : τ → (Bool → Prop) → Prop} (ΓL : τ → List Sl) (s0 : τ) (hp : PassesOwn (model X.prog X.w) X.A X.env X.xe) (cv : Cv Γ (ΓL s0)) (hc : ∀ s, XT X z (ΓL s) c (wct s))
    (hb : ∀ (nx : τ → Prop) s, XB X z { ct with n := J ΓL nx, c := J ΓL nx, b := J ΓL wk } (ΓL s) body (wb nx s)) (hr : ∀ s, XB X z ct (ΓL s) rest (wk s)) :
    XB X z ct Γ (.While c body [] pos :: rest) (WWhile s0 wct wb wk) := fun G0 H0 D σ G H M E ⟨I, μ, i0, it⟩ => by
  obtain ⟨G2, sg, E2⟩ := cv z G0 H0 G H σ E
  refine ⟨_, pss_cons (ps_while hp rt rs) rs, fun m σ' H' => ∃ G' s, m = μ s ∧ Ev z G0 H0 G' H' σ' (ΓL s) ∧ I s, ⟨_, G2, s0, rfl, E2, i0⟩, ?_⟩
  rintro m σ' H' ⟨G', s, rfl, E', q⟩
  refine hc s G0 H0 σ' G' H' _ _ E' (it s q) fun G3 H3 b W3 S3 g3 => ?_
  cases b with
  | true =>
    refine ⟨fun σ4 H4 => ∃ G4 s4, Ev z G0 H0 G4 H4 σ4 (ΓL s4) ∧ I s4 ∧ μ s4 < μ s, fun σ4 H4 ⟨G4, s4, E4, q4, l4⟩ => ⟨μ s4, l4, G4, s4, rfl, E4, q4⟩, ?_⟩
    have M' : Meets z G0 H0 { D with nx := fun σ4 H4 => ∃ G4 s4, Ev z G0 H0 G4 H4 σ4 (ΓL s4) ∧ I s4 ∧ μ s4 < μ s, ct := fun σ4 H4 => ∃ G4 s4, Ev z G0 H0 G4 H4 σ4 (ΓL s4) ∧ I s4 ∧ μ s4 < μ s, bk := RS X rest D } { ct with n := J ΓL (fun s' => I s' ∧ μ s' < μ s), c := J ΓL (fun s' => I s' ∧ μ s' < μ s), b := J ΓL wk } :=
      ⟨fun σ5 G5 H5 Γ5 E5 ⟨s5, e5, q5⟩ => by subst e5; exact ⟨G5, s5, E5, q5⟩,
       fun σ5 G5 H5 Γ5 E5 ⟨s5, e5, q5⟩ => by subst e5; exact hr s5 G0 H0 D σ5 G5 H5 M E5 q5,
       fun σ5 G5 H5 Γ5 E5 ⟨s5, e5, q5⟩ => by subst e5; exact ⟨G5, s5, E5, q5⟩,
       M.r⟩
    exact hb _ s G0 H0 _ σ' G3 H3 M' (E'.step W3 S3) g3
  | false => exact hr s G0 H0 D σ' G3 H3 M (E'.step W3 S3) g3

/-! ### comprehensions -/
def wipeG (Γ : List Sl) : List Nat → List Sl
  | [] => Γ
  | v :: vs => (wipeG Γ vs).set v .no
theorem Ev.wipe1 {G0 H0 G H : Hp} {σ : L2.St} (E : Ev z G0 H0 G H σ Γ) (i : Nat) : Ev z G0 H0 G H (σ.set i none) (Γ.set i .no) :=
  E.setOwn i trivial fun _ _ _ _ _ _ _ h _ => h.elim
theorem Ev.wipe {G0 H0 G H : Hp} {σ : L2.St} (E : Ev z G0 H0 G H σ Γ) : ∀ vs : List Nat, Ev z G0 H0 G H (L2.wipe σ vs) (wipeG Γ vs)
  | [] => E
  | v :: vs => (Ev.wipe E vs).wipe1 v
theorem wipe_at {σ : L2.St} {j : Nat} : ∀ {vs : List Nat}, (j ∉ vs → (L2.wipe σ vs)[j]? = σ[j]?) ∧ (j ∈ vs → j < σ.length → (L2.wipe σ vs)[j]? = some none)
  | [] => ⟨fun _ => rfl, fun h => absurd h (by simp)⟩
  | v :: vs => by
    obtain ⟨h1, h2⟩ := wipe_at (σ := σ) (j := j) (vs := vs)
    have hl : (L2.wipe σ vs).length = σ.length := wipe_length σ vs
    refine ⟨fun h => ?_, fun h hj => ?_⟩
    · show ((L2.wipe σ vs).set v none)[j]? = _
      rw [List.getElem?_set_ne fun e => h (List.mem_cons.mpr (.inl e.symm))]
      exact h1 fun q => h (List.mem_cons_of_mem _ q)
    · show ((L2.wipe σ vs).set v none)[j]? = _
      by_cases e : v = j
      · subst e
        rw [List.getElem?_set_self (by rw [hl]; exact hj)]
      · rw [List.getElem?_set_ne e]
        exact h2 ((List.mem_cons.mp h).resolve_left fun q => e q.symm) hj
theorem wipe_eq {σ σ' : L2.St} {vs is : List Nat} (hs : ∀ i ∈ is, i ∈ vs) (h : σ'.length = σ.length ∧ ∀ j, j ∉ is → σ'[j]? = σ[j]?) : L2.wipe σ' vs = L2.wipe σ vs := by
  apply List.ext_getElem?
  intro j
  by_cases hj : j ∈ vs
  · by_cases hl : j < σ.length
    · rw [wipe_at.2 hj hl, wipe_at.2 hj (by rw [h.1]; exact hl)]
    · rw [List.getElem?_eq_none (by rw [wipe_length, h.1]; omega), List.getElem?_eq_none (by rw [wipe_length]; omega)]
  · rw [wipe_at.1 hj, wipe_at.1 hj]
    exact h.2 j fun q => hj (hs j q)
theorem wipe_wipe {σ : L2.St} {vs : List Nat} : L2.wipe (L2.wipe σ vs) vs = L2.wipe σ vs := by
  apply List.ext_getElem?
  intro j
  by_cases hj : j ∈ vs
  · by_cases hl : j < σ.length
    · rw [wipe_at.2 hj hl, wipe_at.2 hj (by rw [wipe_length]; exact hl)]
    · rw [List.getElem?_eq_none (by rw [wipe_length, wipe_length]; omega), List.getElem?_eq_none (by rw [wipe_length]; omega)]
  · rw [wipe_at.1 hj]
/-- the comprehension's list: by an invariant, or (below) by maps -/
def WLc (xs : List α) (wt : α → (Bool → Prop) → Prop) (we : α → (β → Prop) → Prop) (wk : List β → Prop) : Prop :=
  xs.length < sizeLine ∧ ∃ I : Nat → List β → Prop, I 0 [] ∧ (∀ i x acc, xs[i]? = some x → I i acc → wt x fun b => if b = true then we x fun y => I (i + 1) (acc ++ [y]) else I (i + 1) acc) ∧ ∀ acc, I xs.length acc → wk acc
/-- a clause's tests -/
def XTs (X : Cx) (z : Zs) (Γ : List Sl) (ifs : List Expr) (w : (Bool → Prop) → Prop) : Prop :=
  ∀ (G0 H0 : Hp) (σ : L2.St) (G H : Hp) (k : Bool → Prop) (Q : Bool → Hp → Prop), Ev z G0 H0 G H σ Γ → w k → (∀ G' H' b, Wd z G' H' → Stp z G H G' H' → k b → Q b H') → ∃ t, PTs X ifs t ∧ t σ H Q
theorem xts_nil : XTs X z Γ [] (fun k => k true) := fun G0 H0 σ G H k Q E hw hk => ⟨_, pts_nil, hk G H true E.wd (Stp.refl _ _ _) hw⟩
theorem xts_one (h : XT X z Γ c wc) : XTs X z Γ [c] wc := fun G0 H0 σ G H k Q E hw hk => ⟨_, pts_one rt, h G0 H0 σ G H k Q E hw hk⟩
theorem Stp.app {G H G' H' : Hp} {q : Addr} {o u : HO} (S : Stp z G (upd H q o) G' H') (gq : G q = none) (nq : H q = none) : Stp z G H G' (upd H' q u) := by
  have ne : ∀ {a : Addr} {w : HO}, H a = some w → a ≠ q := fun h => ne_of_none h nq
  refine ⟨S.g, fun a w hz h => ?_, fun a w h g => ?_, fun a w h => ?_⟩
  · rw [upd_ne (ne h)]
    exact S.h a w hz (by rw [upd_ne (ne h)]; exact h)
  · exact S.n a w (by rw [upd_ne (ne h)]; exact h) g
  · obtain ⟨o', e⟩ := S.t a w (by rw [upd_ne (ne h)]; exact h)
    exact ⟨o', by rw [upd_ne (ne h)]; exact e⟩
section
variable {elt : Expr} {ifs : List Expr} {scope : Scope} {own : List (Str × Nat)} {is : List Nat} {ΓT : α → List Sl} {wt : α → (Bool → Prop) → Prop} {we : α → (β → Prop) → Prop}
end
end
end Zk
/-! TL7: a def's body keeps its promise. -/
namespace Zk
open PySem PySem.Spec L2

/-- a row as slots -/
structure RowSl {ρ : Type} (R : Row ρ) (f : ρ → List Sl) : Prop where
  len : ∀ x, (f x).length = R.n
  sl : ∀ (z : Zs) (H0 G H : Hp) (vs : List V) (x : ρ) (i : Nat) (S : Sl) (o : Option V), R.rep G vs x → (f x)[i]? = some S → (vs.map some)[i]? = some o → SlOk z H0 G H o S
  own : ∀ x (i : Nat) (S : Sl), (f x)[i]? = some S → S.own = false
theorem rsl_nil : RowSl Row.nil (fun _ => []) := ⟨fun _ => rfl, fun _ _ _ _ _ _ _ _ _ _ h _ => by simp at h, fun _ _ _ h => by simp at h⟩
theorem rsl_one {α : Type} {A : Ty α} : RowSl (Row.one A) (fun x => [.fz A x]) := ⟨fun _ => rfl, fun z H0 G H vs x i S o ⟨v, e, r⟩ h1 h2 => by
  subst e
  cases i with
  | zero =>
    have e1 := Option.some.inj h1
    have e2 : some v = o := Option.some.inj h2
    subst e1
    exact ⟨v, e2.symm, r⟩
  | succ i => simp at h1, fun x i S h => by
  cases i with
  | zero => rw [← Option.some.inj h]; rfl
  | succ i => simp at h⟩
theorem rsl_cons {α ρ : Type} {A : Ty α} {R : Row ρ} {f : ρ → List Sl} (q : RowSl R f) : RowSl (Row.cons A R) (fun x => .fz A x.1 :: f x.2) := ⟨fun x => by
  show (f x.2).length + 1 = R.n + 1
  rw [q.len], fun z H0 G H vs x i S o ⟨v, r, e, h, t⟩ h1 h2 => by
  subst e
  cases i with
  | zero =>
    have e1 := Option.some.inj h1
    have e2 : some v = o := Option.some.inj h2
    subst e1
    exact ⟨v, e2.symm, h⟩
  | succ i => exact q.sl z H0 G H r x.2 i S o t h1 h2, fun x i S h => by
  cases i with
  | zero => rw [← Option.some.inj h]; rfl
  | succ i => exact q.own x.2 i S h⟩
theorem start_at {N : List Str} {vs : List V} {i : Nat} {o : Option V} (h : (L2.start N vs)[i]? = some o) : (i < vs.length ∧ (vs.map some)[i]? = some o) ∨ (vs.length ≤ i ∧ o = none) := by
  unfold L2.start at h
  by_cases hi : i < vs.length
  · rw [List.getElem?_append_left (by simpa using hi)] at h
    exact .inl ⟨hi, h⟩
  · rw [List.getElem?_append_right (by simpa using hi), List.getElem?_replicate] at h
    split at h
    · exact .inr ⟨by omega, (Option.some.inj h).symm⟩
    · cases h
theorem pad_at {L : List Sl} {n i : Nat} {S : Sl} (h : (L ++ List.replicate n Sl.no)[i]? = some S) : L[i]? = some S ∨ S = .no := by
  by_cases hi : i < L.length
  · rw [List.getElem?_append_left hi] at h
    exact .inl h
  · rw [List.getElem?_append_right (by omega), List.getElem?_replicate] at h
    split at h
    · exact .inr (Option.some.inj h).symm
    · cases h
/-- the slots at a def's entry -/
theorem ev_start {ρ : Type} {R : Row ρ} {f : ρ → List Sl} {z : Zs} {G H : Hp} {vs : List V} {x : ρ} {N : List Str} (q : RowSl R f) (W : Wd z G H) (r : R.rep G vs x) (hN : R.n ≤ N.length) : Ev z G H G H (L2.start N vs) (f x ++ List.replicate (N.length - R.n) .no) := by
  have hl := R.len r
  refine ⟨W, Stp.refl _ _ _, ?_, fun i S o h1 h2 => ?_, fun i j S T o1 o2 l hij h1 h2 _ _ h3 h4 => ?_⟩
  · unfold L2.start
    rw [List.length_append, List.length_map, List.length_replicate, List.length_append, List.length_replicate, q.len, hl]
  · rcases pad_at h1 with h1 | e
    · rcases start_at h2 with ⟨_, h2⟩ | ⟨h2, _⟩
      · exact q.sl z H G H vs x i S o r h1 h2
      · have := (List.getElem?_eq_some_iff.mp h1).1
        rw [q.len] at this
        omega
    · subst e; trivial
  · rcases pad_at h1 with h1 | e
    · exact fp_own h3 (q.own x i S h1)
    · subst e; exact h3
theorem ev_startS {ρ : Type} {R : Row ρ} {f : ρ → List Sl} {z : Zs} {G H : Hp} {s : Addr} {vs : List V} {x : ρ} {N : List Str} (hz : z.at_ = some s) (q : RowSl R f) (W : Wd z G H) (r : R.rep G vs x) (hN : R.n + 1 ≤ N.length) :
    Ev z G H G H (L2.start N (.ref s :: vs)) (.st :: (f x ++ List.replicate (N.length - (R.n + 1)) .no)) := by
  have hl := R.len r
  have e1 : L2.start N (.ref s :: vs) = some (.ref s) :: (vs.map some ++ List.replicate (N.length - (vs.length + 1)) none) := rfl
  rw [e1]
  have at_ : ∀ {i : Nat} {o : Option V}, (vs.map some ++ List.replicate (N.length - (vs.length + 1)) none)[i]? = some o → (i < vs.length ∧ (vs.map some)[i]? = some o) ∨ vs.length ≤ i := fun {i o} h => by
    by_cases hi : i < vs.length
    · rw [List.getElem?_append_left (by simpa using hi)] at h
      exact .inl ⟨hi, h⟩
    · exact .inr (by omega)
  refine ⟨W, Stp.refl _ _ _, ?_, fun i S o h1 h2 => ?_, fun i j S T o1 o2 l hij h1 h2 h5 h6 h3 h4 => ?_⟩
  · rw [List.length_cons, List.length_cons, List.length_append, List.length_map, List.length_replicate, List.length_append, List.length_replicate, q.len, hl]
  · cases i with
    | zero =>
      have e1 := Option.some.inj h1
      have e2 := Option.some.inj h2
      subst e1
      exact ⟨s, hz, e2.symm⟩
    | succ i =>
      rcases pad_at (i := i) h1 with h1 | e
      · rcases at_ (i := i) h2 with ⟨_, h2⟩ | h2
        · exact q.sl z H G H vs x i S o r h1 h2
        · have := (List.getElem?_eq_some_iff.mp h1).1
          rw [q.len] at this
          omega
      · subst e; trivial
  · cases i with
    | zero => rw [← Option.some.inj h1] at h3; exact h3
    | succ i =>
      rcases pad_at (i := i) h1 with h1 | e
      · exact fp_own h3 (q.own x i S h1)
      · subst e; exact h3

section
variable {P : Program} {w : World} {K : PySem.W.Frag} {mg : Str → Option Value} {base : Heap} {ρ β φ : Type} {R : Row ρ} {B : Ty β} {Rf : Row φ} {x qual : Str} {params : Arguments} {body : List Stmt} {scope : Scope} {f : Addr} {fd : FuncData} {N ps : List Str} {n : Nat} {C : Addr} {m : Str}
  {fsl : ρ → List Sl} {wf : ρ → (β → Prop) → Prop}
abbrev BindOk (x : Str) (params : Arguments) (body : List Stmt) (scope : Scope) (ps : List Str) : Prop := ∀ (kV doc pm : Value) (an : Option Addr) (cdv ct : Value) (us : List Value), us.length = ps.length → bindArgs (PySem.W.fnOf x qual params body scope .none kV doc pm an cdv ct) ⟨us, []⟩ = pure (ps.zip us)
/-- what a body must show, for a def that leaves the state alone -/
def BodyP (P : Program) (w : World) (K : PySem.W.Frag) (mg : Str → Option Value) (base : Heap) (N : List Str) (qual : Str) (scope : Scope) (body : List Stmt) (f : Addr) (n : Nat) (B : Ty β) (kn : (β → Prop) → Prop) (Γ0 : ρ → List Sl) (wf : ρ → (β → Prop) → Prop) : Prop :=
  ∀ (cdv : Value) (A : Around) (outer : List Env) (s : Shared) (H : Hp) (E : XK), Room n (A.deeper (PyProof.Rows.envOfC qual scope s.heap.objs.size f cdv)) → ∀ (y : ρ) (k : β → Prop), XB (cxOf CX0 P w K mg base N qual scope f cdv A outer s H E).nox Z0 { n := fun _ => kn k, B := B, r := fun _ => k } (Γ0 y) body (wf y k)
theorem fn_P {Γ0 : ρ → List Sl} {kn : (β → Prop) → Prop} (F : FunD K x qual params body scope [] [] f fd) (S : FnScope N ps scope) (hn : R.n = ps.length) (hN : R.n ≤ N.length) (q : RowSl R fsl) (hΓ : ∀ y, Γ0 y = fsl y ++ List.replicate (N.length - R.n) .no)
    (hkn : ∀ k G, kn k → ∃ y, B.rep G .non y ∧ k y) (hB : BodyP P w K mg base N qual scope body f n B kn Γ0 wf) : FnOk P w K mg base CX0 (n + 1) f fd ps (spP R B wf) := by
  refine F.ok S (fun vs H Q E h => ?_) (fun cdv A outer s H vs Q E hr h => ?_)
  · obtain ⟨G, y, k, _, r, _⟩ := h
    rw [R.len r, hn]
  · obtain ⟨G, y, k, W, r, hw, hk⟩ := h
    refine ⟨_, PSs.nox rs, hB cdv A outer s H E hr y k G H _ _ G H ⟨fun σ G' H' Γ E' z => ?_, fun _ _ _ _ _ z => z.elim, fun _ _ _ _ _ z => z.elim, fun _ G' H' _ v y' E' r' z => hk G' H' v y' E'.wd E'.base r' z⟩ (by rw [hΓ]; exact ev_start q W r hN) hw⟩
    obtain ⟨y', r', k'⟩ := hkn k G' z
    exact hk G' H' .non y' E'.wd E'.base r' k'
def BodyS (P : Program) (w : World) (K : PySem.W.Frag) (mg : Str → Option Value) (base : Heap) (N : List Str) (qual : Str) (scope : Scope) (body : List Stmt) (f : Addr) (n : Nat) (mm : Zm) (B : Ty β) (kn : (β → Prop) → Prop) (Γ0 : ρ → List Sl) (wf : ρ → (β → Prop) → Prop) : Prop :=
  ∀ (cdv : Value) (A : Around) (outer : List Env) (s : Shared) (H : Hp) (E : XK), Room n (A.deeper (PyProof.Rows.envOfC qual scope s.heap.objs.size f cdv)) → ∀ (st : Addr) (y : ρ) (k : β → Prop), XB (cxOf CX0 P w K mg base N qual scope f cdv A outer s H E).nox (mm.at_ st) { n := fun _ => kn k, B := B, r := fun _ => k } (Γ0 y) body (wf y k)
theorem fn_S {mm : Zm} {Γ0 : ρ → List Sl} {kn : (β → Prop) → Prop} (F : FunD K x qual params body scope [] [] f fd) (S : FnScope N ps scope) (hn : R.n + 1 = ps.length) (hN : R.n + 1 ≤ N.length) (q : RowSl R fsl) (hΓ : ∀ y, Γ0 y = .st :: (fsl y ++ List.replicate (N.length - (R.n + 1)) .no))
    (hkn : ∀ k G, kn k → ∃ y, B.rep G .non y ∧ k y) (hB : BodyS P w K mg base N qual scope body f n mm B kn Γ0 wf) : FnOk P w K mg base CX0 (n + 1) f fd ps (spS mm R B wf) := by
  refine F.ok S (fun vs H Q E h => ?_) (fun cdv A outer s H vs Q E hr h => ?_)
  · obtain ⟨s, rs', G, y, k, e, _, r, _⟩ := h
    rw [e, List.length_cons, R.len r, hn]
  · obtain ⟨st, rs', G, y, k, e, W, r, hw, hk⟩ := h
    subst e
    refine ⟨_, PSs.nox rs, hB cdv A outer s H E hr st y k G H _ _ G H ⟨fun σ G' H' Γ E' z => ?_, fun _ _ _ _ _ z => z.elim, fun _ _ _ _ _ z => z.elim, fun _ G' H' _ v y' E' r' z => hk G' H' v y' E'.wd E'.base r' z⟩ (by rw [hΓ]; exact ev_startS rfl q W r hN) hw⟩
    obtain ⟨y', r', k'⟩ := hkn k G' z
    exact hk G' H' .non y' E'.wd E'.base r' k'
theorem cle_P {Γ0 : ρ → List Sl} {kn : (β → Prop) → Prop} (F : FunD K x x params body scope [] [] f fd) (hm : mg x = some (.ref f)) (S : FnScope N ps scope) (hb : BindOk (qual := x) x params body scope ps) (hn : R.n = ps.length) (hN : R.n ≤ N.length) (q : RowSl R fsl) (hΓ : ∀ y, Γ0 y = fsl y ++ List.replicate (N.length - R.n) .no)
    (hkn : ∀ k G, kn k → ∃ y, B.rep G .non y ∧ k y) (hB : BodyP P w K mg base N x scope body f n B kn Γ0 wf) : Cle P w K mg base x (n + 1) (spP R B wf) :=
  ⟨f, fd, ps, fn_P F S hn hN q hΓ hkn hB, hm, F.kp, F.bindsN hb⟩
theorem cle_S {mm : Zm} {Γ0 : ρ → List Sl} {kn : (β → Prop) → Prop} (F : FunD K x x params body scope [] [] f fd) (hm : mg x = some (.ref f)) (S : FnScope N ps scope) (hb : BindOk (qual := x) x params body scope ps) (hn : R.n + 1 = ps.length) (hN : R.n + 1 ≤ N.length) (q : RowSl R fsl) (hΓ : ∀ y, Γ0 y = .st :: (fsl y ++ List.replicate (N.length - (R.n + 1)) .no))
    (hkn : ∀ k G, kn k → ∃ y, B.rep G .non y ∧ k y) (hB : BodyS P w K mg base N x scope body f n mm B kn Γ0 wf) : Cle P w K mg base x (n + 1) (spS mm R B wf) :=
  ⟨f, fd, ps, fn_S F S hn hN q hΓ hkn hB, hm, F.kp, F.bindsN hb⟩
theorem cle_M {Γ0 : ρ → List Sl} {kn : (β → Prop) → Prop} (F : FunD K m qual params body scope [] [] f fd) (hm : Meth K C m f) (S : FnScope N ps scope) (hb : BindOk (qual := qual) m params body scope ps) (hn : R.n = ps.length) (hN : R.n ≤ N.length) (q : RowSl R fsl) (hΓ : ∀ y, Γ0 y = fsl y ++ List.replicate (N.length - R.n) .no)
    (hkn : ∀ k G, kn k → ∃ y, B.rep G .non y ∧ k y) (hB : BodyP P w K mg base N qual scope body f n B kn Γ0 wf) : CleM P w K mg base C m (n + 1) (spP R B wf) :=
  ⟨f, fd, ps, fn_P F S hn hN q hΓ hkn hB, hm, F.bindsN hb⟩
/-- __init__: slot 0 is the new instance -/
def BodyI (P : Program) (w : World) (K : PySem.W.Frag) (mg : Str → Option Value) (base : Heap) (N : List Str) (qual : Str) (scope : Scope) (body : List Stmt) (f : Addr) (n : Nat) (C : Addr) (ns : List Str) (Rf : Row φ) (Γ0 : Addr → ρ → List Sl) (wf : ρ → (φ → Prop) → Prop) : Prop :=
  ∀ (cdv : Value) (A : Around) (outer : List Env) (s : Shared) (H : Hp) (E : XK), Room n (A.deeper (PyProof.Rows.envOfC qual scope s.heap.objs.size f cdv)) → ∀ (p : Addr) (y : ρ) (k : φ → Prop),
    XB (cxOf CX0 P w K mg base N qual scope f cdv A outer s H E).nox Z0 { n := fun Γ => ∃ (fs : List (Str × Fz)) (z : φ), Γ[0]? = some (.ob p C fs) ∧ fs.map (·.1) = ns ∧ (∀ G vs, FV G vs fs → Rf.rep G vs z) ∧ k z, B := tyU, r := fun _ _ => False } (Γ0 p y) body (wf y k)
theorem ev_startI {f : ρ → List Sl} {z : Zs} {G Hb : Hp} {p dx : Addr} {vs : List V} {x : ρ} {N : List Str} (q : RowSl R f) (W : Wd z G Hb) (np : Hb p = none) (nd : Hb dx = none) (ne : dx ≠ p) (r : R.rep G vs x) (hN : R.n + 1 ≤ N.length) :
    Ev z G Hb G (upd (upd Hb dx (.own p)) p (.ins C dx [])) (L2.start N (.ref p :: vs)) (.ob p C [] :: (f x ++ List.replicate (N.length - (R.n + 1)) .no)) := by
  have hl := R.len r
  have np1 : (upd Hb dx (.own p)) p = none := by rw [upd_ne (Ne.symm ne)]; exact np
  have e1 : L2.start N (.ref p :: vs) = some (.ref p) :: (vs.map some ++ List.replicate (N.length - (vs.length + 1)) none) := rfl
  rw [e1]
  have at_ : ∀ {i : Nat} {o : Option V}, (vs.map some ++ List.replicate (N.length - (vs.length + 1)) none)[i]? = some o → (i < vs.length ∧ (vs.map some)[i]? = some o) ∨ vs.length ≤ i := fun {i o} h => by
    by_cases hi : i < vs.length
    · rw [List.getElem?_append_left (by simpa using hi)] at h
      exact .inl ⟨hi, h⟩
    · exact .inr (by omega)
  have W1 := (W.own (o := .own p) nd).own (o := .ins C dx []) np1
  have S1 : Stp z G Hb G (upd (upd Hb dx (.own p)) p (.ins C dx [])) := (Stp.own nd).trans (Stp.own np1)
  refine ⟨W1, S1, ?_, fun i S o h1 h2 => ?_, fun i j S T o1 o2 l hij h1 h2 h5 h6 h3 h4 => ?_⟩
  · rw [List.length_cons, List.length_cons, List.length_append, List.length_map, List.length_replicate, List.length_append, List.length_replicate, q.len, hl]
  · cases i with
    | zero =>
      have e1 := Option.some.inj h1
      have e2 := Option.some.inj h2
      subst e1
      refine ⟨dx, [], e2.symm, ⟨W.gh.free np, fun e => ?_, np, upd_same⟩, .nil⟩
      obtain ⟨_, o', e', _⟩ := W.zk p e
      rw [np] at e'
      cases e'
    | succ i =>
      rcases pad_at (i := i) h1 with h1 | e
      · rcases at_ (i := i) h2 with ⟨_, h2⟩ | h2
        · exact q.sl z Hb G _ vs x i S o r h1 h2
        · have := (List.getElem?_eq_some_iff.mp h1).1
          rw [q.len] at this
          omega
      · subst e; trivial
  · have own0 : ∀ {i : Nat} {S : Sl} {o l}, (Sl.ob p C [] :: (f x ++ List.replicate (N.length - (R.n + 1)) .no))[i]? = some S → S.fp o l → i = 0 := fun {i S o l} h h' => by
      cases i with
      | zero => rfl
      | succ i =>
        rcases pad_at (i := i) h with h | e
        · exact (fp_own h' (q.own x i S h)).elim
        · subst e; exact h'.elim
    exact hij ((own0 h1 h3).trans (own0 h2 h4).symm)
theorem cle_I {ns : List Str} {Γ0 : Addr → ρ → List Sl} {wf : ρ → (φ → Prop) → Prop} (F : FunD K "__init__" qual params body scope [] [] f fd) (M : Mk K C f) (hm : mg x = some (.ref C)) (S : FnScope N ps scope) (hb : BindOk (qual := qual) "__init__" params body scope ps) (hn : R.n + 1 = ps.length) (hN : R.n + 1 ≤ N.length) (q : RowSl R fsl)
    (hΓ : ∀ p y, Γ0 p y = .ob p C [] :: (fsl y ++ List.replicate (N.length - (R.n + 1)) .no)) (hB : BodyI P w K mg base N qual scope body f n C ns Rf Γ0 wf) : CleI P w K mg base x C (n + 1) (spI C ns R Rf wf) := by
  refine ⟨f, fd, ps, F.ok S (fun vs H Q E h => ?_) (fun cdv A outer s H vs Q E hr h => ?_), M, hm, F.bindsN hb⟩
  · obtain ⟨p, dx, rs', G, Hb, y, k, e, _, _, _, _, _, r, _⟩ := h
    rw [e, List.length_cons, R.len r, hn]
  · obtain ⟨p, dx, rs', G, Hb, y, k, e, eH, np, nd, ne, W, r, hw, hk⟩ := h
    subst e eH
    refine ⟨_, PSs.nox rs, hB cdv A outer s _ E hr p y k G Hb _ _ G _ ⟨fun σ G' H' Γ E' ⟨fs, z, h0, hns, hR, kz⟩ => ?_, fun _ _ _ _ _ z => z.elim, fun _ _ _ _ _ z => z.elim, fun _ _ _ _ _ _ _ _ z => z.elim⟩ (by rw [hΓ]; exact ev_startI q W np nd ne r hN) hw⟩
    obtain ⟨o, eo, dx', vs', rfl, r', q'⟩ := E'.at_ h0
    have sg : Same G' (upd G' p (.ins C dx' vs')) := same_new r'.g
    have E2 := E'.freeze (S' := .no) h0 eo rfl r' rfl trivial
    obtain ⟨e1, e2⟩ := fz_split (FR.mono sg q')
    rw [hns] at e1
    exact hk _ H' z E2.wd E2.base ⟨p, dx', vs'.map (·.2), rfl, by rw [← e1]; exact upd_same, hR _ _ e2⟩ kz
end
end Zk
/-! TL8: one's own list of mixed items; the law's state from within. -/
namespace Zk
open PySem PySem.Spec L2
/-- the j-th of a row replaced -/
def RowPut {ρ α : Type} (R : Row ρ) (j : Nat) (A : Ty α) (g : ρ → α → ρ) : Prop := ∀ G vs x v y, R.rep G vs x → A.rep G v y → R.rep G (vs.set j v) (g x y) ∧ j < vs.length
theorem rp_one {α : Type} {A : Ty α} : RowPut (Row.one A) 0 A (fun _ y => y) := fun _ _ _ v _ ⟨u, e, _⟩ h => by subst e; exact ⟨⟨v, rfl, h⟩, Nat.succ_pos _⟩
theorem rp_zero {α ρ : Type} {A : Ty α} {R : Row ρ} : RowPut (Row.cons A R) 0 A (fun x y => (y, x.2)) := fun _ _ _ v _ ⟨u, r, e, _, q⟩ h => by subst e; exact ⟨⟨v, r, rfl, h, q⟩, Nat.succ_pos _⟩
theorem rp_succ {α β ρ : Type} {A : Ty α} {B : Ty β} {R : Row ρ} {j : Nat} {g : ρ → α → ρ} (h : RowPut R j A g) : RowPut (Row.cons B R) (j + 1) A (fun x y => (x.1, g x.2 y)) := fun G _ _ v y ⟨u, r, e, q, t⟩ hv => by
  subst e
  obtain ⟨h1, h2⟩ := h G r _ v y t hv
  exact ⟨⟨u, r.set j v, rfl, q, h1⟩, Nat.succ_lt_succ h2⟩
section
variable {X : Cx} {z : Zs} {Γ Γ1 : List Sl} {ct : Ct} {a b c e : Expr} {rest body : List Stmt} {α β ρ : Type} {A : Ty α} {R : Row ρ} {pos p p2 : Pos} {x : Str} {wa : (α → Prop) → Prop}
/-- name[j] of one's own mixed list -/
theorem xe_itMx {f : ρ → α} {y : ρ} {q : Addr} (i j : Nat) (hΓ : Γ[i]? = some (.mx q R y)) (hN : X.N[i]? = some x) (hv : Vis X.env.scope x) (hr : RowAt R j A f) (hi : XE X z Γ b tyI (fun k => k (j : Int))) (hs : PlainIx b) (hd : (x == ("__debug__" : Str)) = false := by decide) (hcd : (x == ("__classdict__" : Str)) = false := by decide) :
    XE X z Γ (.Subscript (.Name x p) b pos) A (fun k => k (f y)) := fun G0 H0 σ G H k Q E hw hk => by
  obtain ⟨ov, eo, vs, rfl, r, q'⟩ := E.at_ hΓ
  refine ⟨_, pe_ix ix_list (pe_var hN hv hd hcd) re hs, _, eo, hi G0 H0 σ G H (fun y => y = (j : Int)) _ E rfl fun G2 H2 u m W2 S2 r2 ej => ?_⟩
  obtain ⟨v, e, rv⟩ := hr G vs y q'
  subst ej
  exact ⟨q, vs, j, v, rfl, r2, SqL.of (r.step S2).h, atI_nat e, hk G2 H2 v _ W2 S2 (A.mono S2.g rv) hw⟩
/-- name[j] = e -/
theorem xb_setMx {g : ρ → α → ρ} {y : ρ} {q : Addr} {wk : ρ → Prop} (i j : Nat) (hΓ : Γ[i]? = some (.mx q R y)) (hN : X.N[i]? = some x) (hv : Vis X.env.scope x) (hr : RowPut R j A g) (he : XE X z Γ e A wa) (hb : XE X z Γ b tyI (fun k => k (j : Int))) (hn : ∀ y', XB X z ct (Γ.set i (.mx q R y')) rest (wk y'))
    (hs : swapsWithSole [.Subscript (.Name x p) b p2] e pos.line X.env = pure false := by rfl) (hw2 : swappedStores [.Subscript (.Name x p) b p2] e X.env = pure none := by rfl)
    (h1 : (assignEach [.Subscript (.Name x p) b p2] X.env).map (·.2) = [assign (.Subscript (.Name x p) b p2) X.env] := by rfl)
    (ha : ∀ v, assign (.Subscript (.Name x p) b p2) X.env v = (do
      let ov ← holding [v] (eval (.Name x p) X.env)
      let iv ← holding [v, ov] (eval b X.env)
      standAt p2
      holding [v, ov, iv] (setItem ov iv v)
      release [v, ov, iv] []) := by intro _; rfl) (hd : (x == ("__debug__" : Str)) = false := by decide) (hcd : (x == ("__classdict__" : Str)) = false := by decide) :
    XB X z ct Γ (.Assign [.Subscript (.Name x p) b p2] e pos :: rest) (wa fun y' => wk (g y y')) := fun G0 H0 D σ G H M E hw => by
  obtain ⟨ov, eo, vs, rfl, r, q'⟩ := E.at_ hΓ
  refine ⟨_, pss_cons (ps_asg re (pg_sub (pe_var hN hv hd hcd) re set_list ha) hs hw2 h1) rs, ?_⟩
  refine he G0 H0 σ G H _ _ E hw fun G1 H1 v y1 W1 S1 ry g1 => ?_
  refine ⟨_, eo, hb G0 H0 σ G1 H1 (fun y => y = (j : Int)) _ (E.step W1 S1) rfl fun G2 H2 u m W2 S2 rj ej => ?_⟩
  subst ej
  have r1 := r.step (S1.trans S2)
  obtain ⟨h3, h4⟩ := hr G2 vs y v y1 (R.mono (S1.trans S2).g q') (A.mono S2.g ry)
  refine ⟨q, vs, j, j, rfl, rj, r1.h, ?_, ?_⟩
  · unfold ixN
    rw [if_pos (by omega), if_pos (by omega)]
    simp
  · exact hn _ G0 H0 D σ G2 _ M ((E.step W2 (S1.trans S2)).mut hΓ eo rfl r1 ⟨_, rfl, ⟨r1.g, r1.z, r1.h0, upd_same⟩, h3⟩) g1
end
/-- a state that is a list of mixed items -/
def zmR {ρ : Type} (R : Row ρ) (I : ρ → Prop) : Zm := ⟨fun G o => ∃ vs x, o = .lst vs ∧ R.rep G vs x ∧ I x, fun s ⟨vs, x, e, r, i⟩ => ⟨vs, x, e, R.mono s r, i⟩⟩
section
variable {P : Program} {w : World} {K : PySem.W.Frag} {mg : Str → Option Value} {base : Heap} {ρ β φ : Type} {R : Row ρ} {B : Ty β} {Rs : Row φ} {I : φ → Prop} {x qual : Str} {params : Arguments} {body : List Stmt} {scope : Scope} {f : Addr} {fd : FuncData} {N ps : List Str} {n : Nat}
  {fsl : ρ → List Sl} {wf : ρ → (β → Prop) → Prop}
/-- the state's def from within: slot 0 is the state's list -/
def BodyM (P : Program) (w : World) (K : PySem.W.Frag) (mg : Str → Option Value) (base : Heap) (N : List Str) (qual : Str) (scope : Scope) (body : List Stmt) (f : Addr) (n : Nat) (Rs : Row φ) (I : φ → Prop) (B : Ty β) (Γ0 : Addr → φ → ρ → List Sl) (wf : ρ → (β → Prop) → Prop) : Prop :=
  ∀ (cdv : Value) (A : Around) (outer : List Env) (s : Shared) (H : Hp) (E : XK), Room n (A.deeper (PyProof.Rows.envOfC qual scope s.heap.objs.size f cdv)) → ∀ (st : Addr) (u : φ) (y : ρ) (k : β → Prop), I u →
    ∃ w' : Prop, (wf y k → w') ∧ XB (cxOf CX0 P w K mg base N qual scope f cdv A outer s H E).nox Z0 { n := fun _ => False, B := B, r := fun Γ z => ∃ u', Γ[0]? = some (.mx st Rs u') ∧ I u' ∧ k z } (Γ0 st u y) body w'
theorem cle_SM {Γ0 : Addr → φ → ρ → List Sl} (F : FunD K x x params body scope [] [] f fd) (hm : mg x = some (.ref f)) (S : FnScope N ps scope) (hb : BindOk (qual := x) x params body scope ps) (hn : R.n + 1 = ps.length) (hN : R.n + 1 ≤ N.length) (q : RowSl R fsl)
    (hΓ : ∀ st u y, Γ0 st u y = .mx st Rs u :: (fsl y ++ List.replicate (N.length - (R.n + 1)) .no)) (hB : BodyM P w K mg base N x scope body f n Rs I B Γ0 wf) : Cle P w K mg base x (n + 1) (spS (zmR Rs I) R B wf) := by
  refine ⟨f, fd, ps, F.ok S (fun vs H Q E h => ?_) (fun cdv A outer s H vs Q E hr h => ?_), hm, F.kp, F.bindsN hb⟩
  · obtain ⟨s, rs', G, y, k, e, _, r, _⟩ := h
    rw [e, List.length_cons, R.len r, hn]
  · obtain ⟨st, rs', G, y, k, e, W, r, hw, hk⟩ := h
    subst e
    obtain ⟨gs, o, hs, vs, u, eo, ru, iu⟩ := W.zk st rfl
    subst eo
    obtain ⟨w', hw', hx⟩ := hB cdv A outer s H E hr st u y k iu
    -- the base: all but the state
    have hb0 : ∀ b u, (fun b => if b = st then none else H b) b = some u → b ≠ st ∧ H b = some u := fun b u e => by
      have e : (if b = st then none else H b) = some u := e
      by_cases q : b = st
      · rw [if_pos q] at e; cases e
      · rw [if_neg q] at e; exact ⟨q, e⟩
    have e1 : L2.start N (.ref st :: rs') = some (.ref st) :: (rs'.map some ++ List.replicate (N.length - (rs'.length + 1)) none) := rfl
    have hl := R.len r
    have E0 : Ev Z0 G (fun b => if b = st then none else H b) G H (L2.start N (.ref st :: rs')) (Γ0 st u y) := by
      rw [hΓ, e1]
      have at_ : ∀ {i : Nat} {o : Option V}, (rs'.map some ++ List.replicate (N.length - (rs'.length + 1)) none)[i]? = some o → (i < rs'.length ∧ (rs'.map some)[i]? = some o) ∨ rs'.length ≤ i := fun {i o} h => by
        by_cases hi : i < rs'.length
        · rw [List.getElem?_append_left (by simpa using hi)] at h
          exact .inl ⟨hi, h⟩
        · exact .inr (by omega)
      refine ⟨W.z0, ⟨Same.refl _, fun a o _ e => (hb0 a o e).2, fun _ _ _ e => e, fun a o e => ⟨o, (hb0 a o e).2⟩⟩, ?_, fun i S o h1 h2 => ?_, fun i j S T o1 o2 l hij h1 h2 h5 h6 h3 h4 => ?_⟩
      · rw [List.length_cons, List.length_cons, List.length_append, List.length_map, List.length_replicate, List.length_append, List.length_replicate, q.len, hl]
      · cases i with
        | zero =>
          have e1 := Option.some.inj h1
          have e2 := Option.some.inj h2
          subst e1
          exact ⟨vs, e2.symm, ⟨gs, (fun q => nomatch q), by show (if st = st then none else H st) = none; rw [if_pos rfl], hs⟩, ru⟩
        | succ i =>
          rcases pad_at (i := i) h1 with h1 | e
          · rcases at_ (i := i) h2 with ⟨_, h2⟩ | h2
            · exact q.sl _ _ G H rs' y i S o r h1 h2
            · have := (List.getElem?_eq_some_iff.mp h1).1
              rw [q.len] at this
              omega
          · subst e; trivial
      · have own0 : ∀ {i : Nat} {S : Sl} {o l}, (Sl.mx st Rs u :: (fsl y ++ List.replicate (N.length - (R.n + 1)) .no))[i]? = some S → S.fp o l → i = 0 := fun {i S o l} h h' => by
          cases i with
          | zero => rfl
          | succ i =>
            rcases pad_at (i := i) h with h | e
            · exact (fp_own h' (q.own y i S h)).elim
            · subst e; exact h'.elim
        exact hij ((own0 h1 h3).trans (own0 h2 h4).symm)
    refine ⟨_, PSs.nox rs, hx G _ _ _ G H ⟨fun _ _ _ _ _ z => z.elim, fun _ _ _ _ _ z => z.elim, fun _ _ _ _ _ z => z.elim, fun σ' G' H' Γ v y' E' r' ⟨u', h0, iu', kz⟩ => ?_⟩ E0 (hw' hw)⟩
    obtain ⟨o, eo, vs', rfl, r2, q2⟩ := E'.at_ h0
    refine hk G' H' v y' ⟨E'.wd.gh, fun s' es => ?_⟩ ⟨E'.base.g, fun a o hz h => E'.base.h a o (fun q => nomatch q) ?_, fun a o h g => ?_, fun a o h => ?_⟩ r' kz
    · cases es
      exact ⟨r2.g, _, r2.h, vs', u', rfl, q2, iu'⟩
    · show (if a = st then none else H a) = some o
      rw [if_neg fun e => hz (by rw [e]; rfl)]
      exact h
    · by_cases e : a = st
      · rw [e]; exact r2.g
      · exact E'.base.n a o (by show (if a = st then none else H a) = some o; rw [if_neg e]; exact h) g
    · by_cases e : a = st
      · rw [e]; exact ⟨_, r2.h⟩
      · exact E'.base.t a o (by show (if a = st then none else H a) = some o; rw [if_neg e]; exact h)
end
end Zk
/-! TL9: enumerate over a tuple. -/
namespace Zk
section
open PySem PySem.Spec
theorem meets_enumerate_newT (l : Addr) (items : Array Value) :
    PySem.Meets (Builtin.«enumerate.__new__» ⟨[.type "enumerate", .ref l], []⟩) (fun _ R s => s.heap.IsTuple l items ∧
      R (.ok (.ret (.ref (s.heap.push { cls := .type "tuple_iterator", data := .fields #[.ref l, .int 0 0] }).objs.size)))
        { s with heap := (s.heap.push { cls := .type "tuple_iterator", data := .fields #[.ref l, .int 0 0] }).push { cls := .type "enumerate", data := .fields #[.none, .bool false, .ref s.heap.objs.size, rawInt 0, .none, .none] } }) :=
  .of_wp fun prog w A R s h => by
    obtain ⟨hp, g, d, tk, os⟩ := s; obtain ⟨hl, h⟩ := h
    have hsub := sub_enumerate
    have q1 : ∀ {A' : Around} {E : Value → Shared → Prop} {Q : Value → Shared → Prop}, Q (.ref hp.objs.size) ⟨hp.push { cls := .type "tuple_iterator", data := .fields #[.ref l, .int 0 0] }, g, d, tk, os⟩ → wpAny (model prog w) A' (pyIter (.ref l)) Q E ⟨hp, g, d, tk, os⟩ :=
      fun q => wpAny_pyIter_tuple (s := ⟨hp, g, d, tk, os⟩) hl q
    obtain ⟨o, ho, hc, n, hd⟩ := id hl
    have hty : Shared.TypeIs ⟨hp, g, d, tk, os⟩ (.ref l) "tuple" := ⟨o, ho, hc⟩
    obtain ⟨oc, od, dt, sl⟩ := o
    replace hc : oc = .type "tuple" := hc
    replace hd : dt = .seq items n := hd
    subst hc hd
    wp_walk using AutoSeq1.wpAny_loadPart' ho
    refine wpAny_stack_any fun st => wpAny_pure ?_
    split
    · rename_i c _ _ _ _ _
      cases (c == Value.type "enumerate")
      · wp_walk using AutoSeq1.wpAny_loadPart' ho, q1
        exact ⟨_, rfl, h⟩
      · wp_walk using AutoSeq1.wpAny_loadPart' ho, q1
        exact ⟨_, rfl, h⟩
    · wp_walk using AutoSeq1.wpAny_loadPart' ho, q1
      exact ⟨_, rfl, h⟩
theorem call_enumerate_tup {prog : Program} {w : World} {A : Around} {E : Value → Shared → Prop} {s : Shared} {l : Addr} {items : Array Value} {Q : Value → Shared → Prop} (hL : s.heap.IsTuple l items)
    (h : ∀ h', IsEnum h' (s.heap.objs.size + 1) s.heap.objs.size 0 .none → h'.IsTupleIter s.heap.objs.size l 0 → h'.objs.size = s.heap.objs.size + 2 →
      (∀ b o, s.heap.get? b = some o → h'.get? b = some o) → Q (.ref (s.heap.objs.size + 1)) { s with heap := h' }) :
    wpAny (model prog w) A (call (.type "enumerate") [.ref l]) Q E s := by
  refine callType_new F.called_enumerate (by decide) (F.typeCall_enumerate_1 _) (F.newCall_enumerate_1 _) (fun obj => F.args_object_init_2 obj _) F.entry_enumerate_new
    (meets_enumerate_newT l items) ⟨hL, ?_⟩
  have hz : (s.heap.push { cls := .type "tuple_iterator", data := .fields #[.ref l, .int 0 0] }).objs.size = s.heap.objs.size + 1 := Heap.size_push ..
  show _ ∧ _
  rw [hz]
  have he : IsEnum ((s.heap.push { cls := .type "tuple_iterator", data := .fields #[.ref l, .int 0 0] }).push
      { cls := .type "enumerate", data := .fields #[.none, .bool false, .ref s.heap.objs.size, rawInt 0, .none, .none] }) (s.heap.objs.size + 1) s.heap.objs.size 0 .none := by
    have := Heap.get?_push_size (s.heap.push { cls := .type "tuple_iterator", data := .fields #[.ref l, .int 0 0] })
      (o := { cls := .type "enumerate", data := .fields #[.none, .bool false, .ref s.heap.objs.size, rawInt 0, .none, .none] }) rfl
    rw [hz] at this; exact this
  refine ⟨⟨_, he, rfl⟩, h _ he ⟨_, Heap.get?_push_of_some _ (Heap.get?_push_size _ rfl), rfl, rfl⟩ (by rw [Heap.size_push, hz]) fun b o x => Heap.get?_push_of_some _ (Heap.get?_push_of_some _ x)⟩
theorem wpAny_pyNext_enum_tup_end {prog : Program} {w : World} {A : Around} {E : Value → Shared → Prop} {s : Shared} {e it l : Addr} {i : Nat} {j : Int} {items : Array Value} {old : Value} {Q : Option Value → Shared → Prop} (hh : A.handled = none)
    (he : IsEnum s.heap e it j old) (hit : s.heap.IsTupleIter it l i) (hl : s.heap.IsTuple l items) (hx : items[i]? = none)
    (hQ : ∀ h', Heap.ExtBut it s.heap h' → Q none { s with heap := h' }) : wpAny (model prog w) A (pyNext (.ref e)) Q E s := by
  have hT : s.TypeIs (.ref e) "enumerate" := ⟨_, he, rfl⟩
  unfold pyNext
  refine wpAny_bind (wpAny_attempt (wpAny_callSpecial?_slot (name := Str.ofString "__next__") hT F.slot_enumerate_next
    (wpAny_call_entry F.slot_enumerate_next hT F.entry_enumerate_next ?_ (F.args_enumerate_next_1 _))))
  show wpAny _ _ (field (.ref e) 2 >>= _) _ _ _
  refine wpAny_bind (wpAny_field he rfl (x := .ref it) rfl ?_)
  refine wpAny_bind (wpAny_nextOf_tuple_end hh hit hl hx fun h' x he' hx' => ?_)
  obtain ⟨o, ho, hc⟩ := hx'
  refine wpAny_bind (wpAny_isInstance (T := "StopIteration") (b := true) ⟨o, ho, hc⟩ isSubtype_stop ?_)
  exact wpAny_pure (hQ _ he')
end
section
open PySem PySem.Spec PyProof.Rows L2
/-- the tuple at a as it stands at each turn, each item in a new pair -/
def IteT (K : PySem.W.Frag) (a : Addr) : It :=
  ⟨fun i H => ∃ (xs : List V) (x : V), SqT K H a xs ∧ xs[i]? = some x, fun i H v H' => ∃ T x, v = .ref T ∧ H T = none ∧ H' = upd H T (.tup [.int (i : Nat), x]) ∧ ∀ xs, SqT K H a xs → xs[i]? = some x, fun i H => ∃ xs : List V, SqT K H a xs ∧ xs.length ≤ i⟩
theorem turn_enumT {P : Program} {w : World} {K : PySem.W.Frag} {elts : List Expr} {kk : Nat} {tpos : Pos} (a e it : Addr) :
    Turn P w K (.Tuple elts kk tpos) (IteT K a) [e, it] e (fun i h => (∃ old, IsEnum h e it ((i : Nat) : Int) old) ∧ h.IsTupleIter it a i ∧ e ≠ it) where
  mem := by simp
  obj := fun i h st b hb => by
    obtain ⟨⟨old, he⟩, ⟨o, ho, hc, hd⟩, _⟩ := st
    have e' : b = e ∨ b = it := by simpa using hb
    rcases e' with z | z
    · rw [z]; exact ⟨_, he, fun v q => nomatch q⟩
    · rw [z]; exact ⟨o, ho, fun v q => by rw [hd] at q; cases q⟩
  keep := fun i h h' st k => let ⟨⟨old, he⟩, hi, hne⟩ := st; ⟨⟨old, k e (by simp) _ he⟩, hi.at fun o q => k it (by simp) o q, hne⟩
  item := by
    intro X hP hw hK hc i pins s σ H E I hf st hg
    subst hP hw hK
    obtain ⟨⟨old, he⟩, hit, hne⟩ := st
    obtain ⟨xs, x, hq, hx⟩ := hg
    obtain ⟨its, rv, p, hz⟩ := I.tuple hq
    obtain ⟨u, hu, ru⟩ := rv.get hx
    have hel : e < s.heap.objs.size := Heap.lt_size he
    have hil : it < s.heap.objs.size := by obtain ⟨_, q, _⟩ := hit; exact Heap.lt_size q
    have hp : s.heap.IsTuple a its.toArray := p
    have hal : a < s.heap.objs.size := by obtain ⟨_, q, _⟩ := hp; exact Heap.lt_size q
    have hae : a ≠ e := fun z => by
      subst z
      obtain ⟨o, ho, hc2, _⟩ := hp
      unfold IsEnum at he
      rw [he] at ho
      cases ho
      injection (show Value.type "enumerate" = Value.type "tuple" from hc2) with z
      exact absurd z (by decide)
    have hai : a ≠ it := fun z => by
      subst z
      obtain ⟨o, ho, hc2, _⟩ := hp
      obtain ⟨o2, ho2, hc3, _⟩ := hit
      rw [ho2] at ho
      cases ho
      rw [hc3] at hc2
      injection hc2 with z
      exact absurd z (by decide)
    have hl : i < its.toArray.size := by
      have := (List.getElem?_eq_some_iff.mp hu).1
      simpa using this
    refine wpAny_pyNext_enum_itemD (Draws.tuple (show X.A.in1.handled = none from I.ok.hd hc) it a hai its.toArray) he ⟨hit, hp⟩ hl hne (by simp [hne, Ne.symm hae]) fun y h' tk hy ho hst hT hsz hk => ?_
    obtain ⟨hit', _⟩ := hst
    have ey : y = u := by
      have q : its.toArray[i]? = some y := hy
      rw [show its.toArray[i]? = its[i]? from by simp, hu] at q
      exact (Option.some.inj q).symm
    subst ey
    refine ⟨_, rfl, wpAny_letOwnedTupleGo_enum (s := { s with heap := h', toks := tk + 1 }) ho fun h'' he' sb => ?_⟩
    have hT2 : h''.get? s.heap.objs.size = some { cls := .type "tuple", data := .seq #[.int i tk, y] } := (sb.2 _ (Nat.ne_of_gt hel)).trans hT
    have new : ObjOk X.prog X.w (upd H s.heap.objs.size (.tup [.int (i : Nat), x])) h'' s.heap.objs.size (.tup [.int (i : Nat), x]) :=
      ⟨by show 2 ≤ sizeLine; decide, [.int i tk, y], .cons ⟨_, rfl⟩ (.cons ru .nil), ⟨_, hT2, rfl, _, rfl⟩⟩
    have I1 : Inv X pins σ (upd H s.heap.objs.size (.tup [.int (i : Nat), x])) { s with heap := h'', toks := tk + 1 } :=
      I.turnedNew (ch := [e, it]) (fun b ob hb q => (sb.2 b (fun z => hb (by simp [z]))).trans (hk b ob (fun z => hb (by simp [z])) (fun z => hb (by simp [z])) q)) hf (Nat.le_refl _) new
    refine ⟨.ref s.heap.objs.size, _, I1, rfl, ⟨_, x, rfl, I.hok.fresh (Nat.le_refl _), rfl, fun ys hy => by rw [I.tuple_inj hy hq]; exact hx⟩, ⟨⟨y, ?_⟩, hit'.at fun o q => (sb.2 it (Ne.symm hne)).trans q, hne⟩, fun b hb => ?_⟩
    · have e1 : ((i + 1 : Nat) : Int) = (i : Int) + 1 := by omega
      rw [e1]; exact he'
    · have hb' : b < s.heap.objs.size := by
        have e' : b = e ∨ b = it := by simpa using hb
        rcases e' with z | z
        · rw [z]; exact hel
        · rw [z]; exact hil
      rw [upd_ne (Nat.ne_of_lt hb')]
      exact (hf b hb).1
  done := by
    intro X hP hw hK hc i pins s σ H E I hf st hg
    subst hP hw hK
    obtain ⟨⟨old, he⟩, hit, hne⟩ := st
    obtain ⟨xs, hq, hx⟩ := hg
    obtain ⟨its, rv, p, hz⟩ := I.tuple hq
    obtain ⟨f0, f1, f2, f3, f4, f5⟩ := hf it (by simp)
    have hl := rv.length
    have hp : s.heap.IsTuple a its.toArray := p
    exact wpAny_pyNext_enum_tup_end (I.ok.hd hc) he hit hp (by simp; omega) fun h' eb => ⟨rfl, I.turned (t' := s.toks) (fun b o hb q => eb b o hb q) f0 f1 f3 f4 f5⟩
  self := fun A i s Q E st h => let ⟨⟨_, he⟩, _⟩ := st; wpAny_pyIter_enum he h
def iEnumT (K : PySem.W.Frag) (ta : TA) : TI := fun σ H R => ta σ H fun vs H1 => ∃ a xs, vs = [.ref a] ∧ SqT K H1 a xs ∧ R (IteT K a) H1
theorem pi_enumT {X : Cx} {e : Expr} {ta : TA} {p pos tpos : Pos} {elts : List Expr} {kk : Nat} (hg : Gl X "enumerate") (hm : X.mg "enumerate" = none) (ha : PA X [e] ta) (hs : starEach [e] X.env = [(false, eval e X.env)] := by rfl) :
    PI X (.Tuple elts kk tpos) (.Call (.Name "enumerate" p) [e] [] pos) (iEnumT X.K ta) := by
  refine ⟨fun pins s σ H R I h => ?_⟩
  refine Call_ (ld_blt I hg hm boot_enumerate (PyProof.Rows.callWith_type1 (thn (ha.run pos pins s σ H _ I h) fun us s1 ⟨vs, H1, I1, r1, q1⟩ => ?_) hs rfl))
  obtain ⟨a, xs, ex, hq, q⟩ := q1
  subst ex
  cases r1 with
  | cons r rr =>
    cases rr
    cases r
    obtain ⟨its, rv, p', hz⟩ := I1.tuple hq
    refine call_enumerate_tup (show s1.heap.IsTuple a its.toArray from p') fun h' he hit hsz hk => wpAny_pyIter_enum he ?_
    have I2 : Inv X pins σ H1 { s1 with heap := h' } := I1.kept (t' := s1.toks) hk
    refine ⟨s1.heap.objs.size + 1, [s1.heap.objs.size + 1, s1.heap.objs.size], _, _, H1, rfl, I2, turn_enumT a (s1.heap.objs.size + 1) s1.heap.objs.size, ⟨⟨.none, he⟩, hit, Nat.succ_ne_self _⟩, fun b hb => ?_, q⟩
    have e' : b = s1.heap.objs.size + 1 ∨ b = s1.heap.objs.size := by simpa using hb
    have hle : s1.heap.objs.size ≤ b := by
      rcases e' with z | z
      · rw [z]; exact Nat.le_add_right _ _
      · rw [z]; exact Nat.le_refl _
    exact I1.fpOk hle (I1.hok.fresh hle)
end
end Zk
/-! TL10: more rules. -/
namespace Zk
open PySem PySem.Spec L2

/-! ### texts in order -/
def leS (a b : Str) : Bool := !ltCps b.cps.toList a.cps.toList
theorem leS_iff {a b : Str} : leS a b = true ↔ a.cps.toList ≤ b.cps.toList := by
  unfold leS
  rw [PyProof.Rows.ltCps_eq]
  simp [List.not_lt]
theorem str_ext {a b : Str} (h : a.cps.toList = b.cps.toList) : a = b := by
  obtain ⟨x⟩ := a
  obtain ⟨y⟩ := b
  have : x = y := Array.toList_inj.mp h
  rw [this]
theorem leS_anti {a b : Str} (h : leS a b = true) (h' : leS b a = true) : a = b := str_ext (List.le_antisymm (leS_iff.mp h) (leS_iff.mp h'))
theorem leS_trans {a b c : Str} (h : leS a b = true) (h' : leS b c = true) : leS a c = true := leS_iff.mpr (List.le_trans (leS_iff.mp h) (leS_iff.mp h'))
theorem leS_total (a b : Str) : (leS a b || leS b a) = true := by
  rw [Bool.or_eq_true, leS_iff, leS_iff]
  exact List.le_total _ _
def sortS (xs : List Str) : List Str := xs.mergeSort leS
theorem sortS_perm (xs : List Str) : (sortS xs).Perm xs := List.mergeSort_perm xs leS
theorem sortS_pw (xs : List Str) : (sortS xs).Pairwise (fun a b => leS a b = true) := List.pairwise_mergeSort (le := leS) (fun _ _ _ => leS_trans) leS_total xs
theorem risingS_pw : ∀ (p : Str) (l : List Str), PyProof.Rows.risingS p l = true → (p :: l).Pairwise (fun a b => leS a b = true)
  | p, [], _ => .cons (by simp) .nil
  | p, x :: r, h => by
    have h : (!ltCps x.cps.toList p.cps.toList && PyProof.Rows.risingS x r) = true := h
    rw [Bool.and_eq_true] at h
    have ih := risingS_pw x r h.2
    refine .cons (fun y hy => ?_) ih
    rcases List.mem_cons.mp hy with e | e
    · subst e; exact h.1
    · exact leS_trans h.1 ((List.pairwise_cons.mp ih).1 y e)
theorem sortedS_pw (l : List Str) (h : PyProof.Rows.sortedS l = true) : l.Pairwise (fun a b => leS a b = true) := by
  cases l with
  | nil => exact .nil
  | cons x r => exact risingS_pw x r h
theorem sortS_eq {xs ys : List Str} (p : ys.Perm xs) (h : ys.Pairwise (fun a b => leS a b = true)) : ys = sortS xs :=
  List.Perm.eq_of_pairwise (fun _ _ _ _ h1 h2 => leS_anti h1 h2) h (sortS_pw xs) (p.trans (sortS_perm xs).symm)

section
variable {X : Cx} {z : Zs} {Γ Γ1 : List Sl} {ct : Ct} {a b c e tg iter : Expr} {es : List Expr} {rest body orelse : List Stmt} {α β γ τ ρ : Type} {A : Ty α} {B : Ty β} {C : Ty γ} {R : Row ρ} {pos p p' p2 tpos : Pos} {x m : Str} {w : Prop}
  {wa : (α → Prop) → Prop} {wb : (β → Prop) → Prop} {wl : (List α → Prop) → Prop} {wi wj wk : (Int → Prop) → Prop} {ws : (Str → Prop) → Prop} {w1 w2 : (Bool → Prop) → Prop} {wn : (List Int → Prop) → Prop}
/-! ### second operands that do nothing -/
def powOk (i j n : Int) : Bool := decide (0 ≤ j) && decide (j ≤ 1000000) && decide (i.natAbs < 2 ^ 64) && decide (i ^ j.toNat = n)
theorem powOk_of {i j n : Int} (h : powOk i j n = true) : CPow i j ∧ i ^ j.toNat = n := by
  unfold powOk at h
  simp only [Bool.and_eq_true, decide_eq_true_eq] at h
  exact ⟨⟨h.1.1.1, h.1.1.2, h.1.2⟩, h.2⟩
theorem xe_powc {n : Int} {i j : Int} (hn : powOk i j n = true) (ha : XE X z Γ a tyI (fun k => k i)) (hb : XE X z Γ b tyI (fun k => k j)) : XE X z Γ (.BinOp a .Pow b pos) tyI (fun k => k n) := xe_imp (xe_pow ha hb) fun k h => ⟨(powOk_of hn).1, by rw [(powOk_of hn).2]; exact h⟩
theorem xw_andp {q : Bool} {rst : List Expr} (h : XT X z Γ a w1) (hr : XW X z Γ (.BoolOp .And (b :: rst) pos) w2) (hq : w2 = fun k => k q) : XW X z Γ (.BoolOp .And (a :: b :: rst) pos) (fun k => w1 fun x => k (x && q)) := by
  subst hq
  exact fun G0 H0 σ G H k Q E hw hk =>
  ⟨_, pw_and rt rw_, h G0 H0 σ G H _ _ E hw fun G1 H1 x W1 S1 h1 => by
    cases x with
    | true => exact hr G0 H0 σ G1 H1 k Q (E.step W1 S1) h1 fun G' H' b W S q => hk G' H' b W (S1.trans S) q
    | false => exact hk G1 H1 false W1 S1 h1⟩
theorem xw_orp {q : Bool} {rst : List Expr} (h : XT X z Γ a w1) (hr : XW X z Γ (.BoolOp .Or (b :: rst) pos) w2) (hq : w2 = fun k => k q) : XW X z Γ (.BoolOp .Or (a :: b :: rst) pos) (fun k => w1 fun x => k (x || q)) := by
  subst hq
  exact fun G0 H0 σ G H k Q E hw hk =>
  ⟨_, pw_or rt rw_, h G0 H0 σ G H _ _ E hw fun G1 H1 x W1 S1 h1 => by
    cases x with
    | true => exact hk G1 H1 true W1 S1 h1
    | false => exact hr G0 H0 σ G1 H1 k Q (E.step W1 S1) h1 fun G' H' b W S q => hk G' H' b W (S1.trans S) q⟩
theorem xe_andp {q : Bool} {rst : List Expr} (h : XE X z Γ a tyB w1) (hr : XE X z Γ (.BoolOp .And (b :: rst) pos) tyB w2) (hq : w2 = fun k => k q) : XE X z Γ (.BoolOp .And (a :: b :: rst) pos) tyB (fun k => w1 fun x => k (x && q)) := by
  subst hq
  exact fun G0 H0 σ G H k Q E hw hk =>
  ⟨_, pe_and re re, h G0 H0 σ G H _ _ E hw fun G1 H1 v x W1 S1 r1 h1 => ⟨x, r1, by
    cases x with
    | true => exact hr G0 H0 σ G1 H1 k Q (E.step W1 S1) h1 fun G' H' v b W S r q => hk G' H' v b W (S1.trans S) r q
    | false => exact hk G1 H1 _ false W1 S1 rfl h1⟩⟩
theorem xe_orp {q : Bool} {rst : List Expr} (h : XE X z Γ a tyB w1) (hr : XE X z Γ (.BoolOp .Or (b :: rst) pos) tyB w2) (hq : w2 = fun k => k q) : XE X z Γ (.BoolOp .Or (a :: b :: rst) pos) tyB (fun k => w1 fun x => k (x || q)) := by
  subst hq
  exact fun G0 H0 σ G H k Q E hw hk =>
  ⟨_, pe_or re re, h G0 H0 σ G H _ _ E hw fun G1 H1 v x W1 S1 r1 h1 => ⟨x, r1, by
    cases x with
    | true => exact hk G1 H1 _ true W1 S1 rfl h1
    | false => exact hr G0 H0 σ G1 H1 k Q (E.step W1 S1) h1 fun G' H' v b W S r q => hk G' H' v b W (S1.trans S) r q⟩⟩
theorem xe_ifExpp {q : Bool} {y1 y2 : α} {wa2 wa3 : (α → Prop) → Prop} (hc : XT X z Γ c w1) (ha : XE X z Γ a A wa2) (hb : XE X z Γ b A wa3) (h1 : w1 = fun k => k q) (h2 : wa2 = fun k => k y1) (h3 : wa3 = fun k => k y2) : XE X z Γ (.IfExp c a b pos) A (fun k => k (if q = true then y1 else y2)) := xe_imp (xe_ifExp hc ha hb) fun k h => by
  subst h1 h2 h3
  cases q with
  | true => exact h
  | false => exact h
/-! ### a < b < c -/
theorem chain_ok {op op' : CmpOp} {g g' : Int → Int → Bool} {y v : Int} (ha : XE X z Γ a tyI wi) (hb : XE X z Γ b tyI (fun k => k y)) (hc : XE X z Γ c tyI (fun k => k v)) {G0 H0 : Hp} {σ : L2.St} {G H : Hp} {k : Bool → Prop} {Q : VK} (E : Ev z G0 H0 G H σ Γ) (hw : wi fun x => k (g x y && g' y v))
    (hk : ∀ G' H' (b : Bool), Wd z G' H' → Stp z G H G' H' → k b → Q (.bl b) H') : tChain (rI0 fun i j => .bl (g i j)) (rI0 fun i j => .bl (g' i j)) (RE X a) (RE X b) (RE X c) σ H Q :=
  ha G0 H0 σ G H _ _ E hw fun G1 H1 v1 x1 W1 S1 r1 h1 => hb G0 H0 σ G1 H1 (fun q => q = y) _ (E.step W1 S1) rfl fun G2 H2 v2 y2 W2 S2 r2 e2 => by
    subst e2
    refine ⟨x1, y2, r1, r2, g x1 y2, rfl, ?_⟩
    cases hg : g x1 y2 with
    | false =>
      rw [if_neg (by decide)]
      exact hk G2 H2 false W2 (S1.trans S2) (by rw [hg] at h1; exact h1)
    | true =>
      rw [if_pos rfl]
      refine hc G0 H0 σ G2 H2 (fun q => q = v) _ (E.step W2 (S1.trans S2)) rfl fun G3 H3 v3 y3 W3 S3 r3 e3 => ?_
      subst e3
      exact ⟨y2, y3, r2, r3, hk G3 H3 (g' y2 y3) W3 ((S1.trans S2).trans S3) (by rw [hg] at h1; exact h1)⟩
theorem xe_chain {op op' : CmpOp} {g g' : Int → Int → Bool} {y v : Int} (o1 : OpR X (compareOp op) (rI0 fun i j => .bl (g i j))) (o2 : OpR X (compareOp op') (rI0 fun i j => .bl (g' i j))) (ha : XE X z Γ a tyI wi) (hb : XE X z Γ b tyI wj) (hc : XE X z Γ c tyI wk) (h1 : wj = fun k => k y) (h2 : wk = fun k => k v)
    (hm : lastMarks [op, op'] [b, c] = false := by with_unfolding_all rfl) : XE X z Γ (.Compare a [op, op'] [b, c] pos) tyB (fun k => wi fun x => k (g x y && g' y v)) := by
  subst h1 h2
  exact fun G0 H0 σ G H k Q E hw hk =>
  ⟨_, pe_chain o1 o2 re re re hm, chain_ok (op := op) (op' := op') ha hb hc E hw fun G' H' b W S q => hk G' H' _ b W S rfl q⟩
theorem xt_chain {op op' : CmpOp} {g g' : Int → Int → Bool} {y v : Int} (o1 : OpR X (compareOp op) (rI0 fun i j => .bl (g i j))) (o2 : OpR X (compareOp op') (rI0 fun i j => .bl (g' i j))) (ha : XE X z Γ a tyI wi) (hb : XE X z Γ b tyI wj) (hc : XE X z Γ c tyI wk) (h1 : wj = fun k => k y) (h2 : wk = fun k => k v)
    (hm : lastMarks [op, op'] [b, c] = false := by with_unfolding_all rfl) : XT X z Γ (.Compare a [op, op'] [b, c] pos) (fun k => wi fun x => k (g x y && g' y v)) := by
  subst h1 h2
  exact fun G0 H0 σ G H k Q E hw hk =>
  ⟨_, pt_chain o1 o2 re re re hm, chain_ok (op := op) (op' := op') ha hb hc E hw fun G' H' b W S q => ⟨b, rfl, hk G' H' b W S q⟩⟩
/-! ### enumerate -/
def enumA (xs : List α) : List (Int × α) := xs.mapIdx fun i x => ((i : Int), x)
theorem enumA_length {xs : List α} : (enumA xs).length = xs.length := List.length_mapIdx
theorem enumA_at {xs : List α} {i : Nat} {y : Int × α} (h : (enumA xs)[i]? = some y) : ∃ x, xs[i]? = some x ∧ y = ((i : Int), x) := by
  unfold enumA at h
  rw [List.getElem?_mapIdx] at h
  cases q : xs[i]? with
  | none => rw [q] at h; cases h
  | some x => rw [q] at h; exact ⟨x, rfl, (Option.some.inj h).symm⟩
theorem it_enumL {K : PySem.W.Frag} {G : Hp} {q : Addr} {vs : List V} {xs : List α} (hq : G q = some (.lst vs)) (r : Paired (A.rep G) vs xs) : ItOk z G (Ite K q) (tyT (Row.cons tyI (Row.one A))) (enumA xs) where
  go := fun i x G2 H2 W s h => by
    obtain ⟨y, hy, _⟩ := enumA_at h
    obtain ⟨v, hv, _⟩ := Paired.at_ r hy
    exact ⟨vs, v, SqL.of (W.of (s _ _ hq) nodl), hv⟩
  yld := fun i x G2 H2 v H3 W s h ⟨T, u, e, nT, eH, y⟩ => by
    obtain ⟨y', hy, ex⟩ := enumA_at h
    obtain ⟨u', hu, ru⟩ := Paired.at_ r hy
    have q2 := y vs (SqL.of (W.of (s _ _ hq) nodl))
    rw [hu] at q2
    have e3 := Option.some.inj q2
    subst e eH ex e3
    have ng := W.gh.free nT
    exact ⟨_, W.new nT, Stp.new W.gh nT, T, _, rfl, upd_same, _, [u'], rfl, rfl, u', rfl, A.mono (s.trans (same_new ng)) ru⟩
  stop := fun G2 H2 W s => ⟨vs, SqL.of (W.of (s _ _ hq) nodl), by rw [enumA_length, r.length]; exact Nat.le_refl _⟩
theorem it_enumP {K : PySem.W.Frag} {G : Hp} {q : Addr} {vs : List V} {xs : List α} (hq : G q = some (.tup vs)) (r : Paired (A.rep G) vs xs) : ItOk z G (IteT K q) (tyT (Row.cons tyI (Row.one A))) (enumA xs) where
  go := fun i x G2 H2 W s h => by
    obtain ⟨y, hy, _⟩ := enumA_at h
    obtain ⟨v, hv, _⟩ := Paired.at_ r hy
    exact ⟨vs, v, SqT.of (W.of (s _ _ hq) nodt), hv⟩
  yld := fun i x G2 H2 v H3 W s h ⟨T, u, e, nT, eH, y⟩ => by
    obtain ⟨y', hy, ex⟩ := enumA_at h
    obtain ⟨u', hu, ru⟩ := Paired.at_ r hy
    have q2 := y vs (SqT.of (W.of (s _ _ hq) nodt))
    rw [hu] at q2
    have e3 := Option.some.inj q2
    subst e eH ex e3
    have ng := W.gh.free nT
    exact ⟨_, W.new nT, Stp.new W.gh nT, T, _, rfl, upd_same, _, [u'], rfl, rfl, u', rfl, A.mono (s.trans (same_new ng)) ru⟩
  stop := fun G2 H2 W s => ⟨vs, SqT.of (W.of (s _ _ hq) nodt), by rw [enumA_length, r.length]; exact Nat.le_refl _⟩
theorem xi_enumL {elts : List Expr} {kk : Nat} (hm : X.mg "enumerate" = none) (h : XE X z Γ e (tyL A) wl) (hg : Gl X "enumerate" := by rfl) (hs : starEach (e :: []) X.env = (false, eval e X.env) :: starEach [] X.env := by rfl) :
    XI X z Γ (.Tuple elts kk tpos) (.Call (.Name "enumerate" p) [e] [] pos) (tyT (Row.cons tyI (Row.one A))) (fun k => wl fun xs => k (enumA xs)) := fun G0 H0 σ G H k R E hw hk =>
  ⟨_, pi_enum hg hm (pa_cons re pa_nil hs) (hs.trans rfl), h G0 H0 σ G H _ _ E hw fun G1 H1 v xs W1 S1 ⟨q, vs, ev, hq, r⟩ h1 => ⟨q, vs, by rw [ev], SqL.of (W1.of hq nodl), hk G1 H1 _ _ W1 S1 (it_enumL hq r) h1⟩⟩
theorem xi_enumP {elts : List Expr} {kk : Nat} (hm : X.mg "enumerate" = none) (h : XE X z Γ e (tyP A) wl) (hg : Gl X "enumerate" := by rfl) (hs : starEach (e :: []) X.env = (false, eval e X.env) :: starEach [] X.env := by rfl) :
    XI X z Γ (.Tuple elts kk tpos) (.Call (.Name "enumerate" p) [e] [] pos) (tyT (Row.cons tyI (Row.one A))) (fun k => wl fun xs => k (enumA xs)) := fun G0 H0 σ G H k R E hw hk =>
  ⟨_, pi_enumT hg hm (pa_cons re pa_nil hs) (hs.trans rfl), h G0 H0 σ G H _ _ E hw fun G1 H1 v xs W1 S1 ⟨q, vs, ev, hq, r⟩ h1 => ⟨q, vs, by rw [ev], SqT.of (W1.of hq nodt), hk G1 H1 _ _ W1 S1 (it_enumP hq r) h1⟩⟩
/-- a list unpacked -/
theorem xg_lst {is : List Nat} {tgs : List Expr} {Γ' : ρ → List Sl} {k : Nat} (hc : X.calm = true) (h : XGs X z Γ tgs R is Γ') (hn : (assignEach tgs X.env).length = R.n := by rfl) (hst : (assignEach tgs X.env).findIdx? (·.1) = none := by rfl) : XG X z Γ (.Tuple tgs k pos) (tyM R) is Γ' :=
  fun G0 H0 σ G H v x Q E ⟨q, vs, ev, hq, r⟩ hQ => ⟨_, pg_unl hc rgs hn hst, q, vs, ev, SqL.of (E.wd.lst hq (fun _ => by intro e; cases e)).r, R.len r, h G0 H0 σ G H vs x Q E r hQ⟩
/-! ### built-ins -/
theorem xe_abs (hm : X.mg "abs" = none) (ha : XE X z Γ a tyI wi) (hg : Gl X "abs" := by rfl) (hs : starEach (a :: []) X.env = (false, eval a X.env) :: starEach [] X.env := by rfl) :
    XE X z Γ (.Call (.Name "abs" p) [a] [] pos) tyI (fun k => wi fun x => k (x.natAbs : Int)) := fun G0 H0 σ G H k Q E hw hk =>
  ⟨_, pe_callB call_abs hg hm (by decide +kernel) (pa_cons re pa_nil hs) (by decide) (by decide) hs rfl, ha G0 H0 σ G H _ _ E hw fun G1 H1 v x W1 S1 r h1 => ⟨x, by rw [show v = V.int x from r], hk G1 H1 _ (x.natAbs : Int) W1 S1 (by show V.int _ = V.int _; congr 1; split <;> omega) h1⟩⟩
theorem xe_int1 (hm : X.mg "int" = none) (ha : XE X z Γ a tyI wi) (hg : Gl X "int" := by rfl) (hs : starEach (a :: []) X.env = (false, eval a X.env) :: starEach [] X.env := by rfl) :
    XE X z Γ (.Call (.Name "int" p) [a] [] pos) tyI wi := fun G0 H0 σ G H k Q E hw hk =>
  ⟨_, pe_callTy call_int1 hg hm (by decide +kernel) (pa_cons re pa_nil hs) (by decide) (by decide) hs rfl, ha G0 H0 σ G H _ _ E hw fun G1 H1 v x W1 S1 r h1 => .inl ⟨x, by rw [show v = V.int x from r], hk G1 H1 _ x W1 S1 rfl h1⟩⟩
theorem rgV_eq {n : Int} : rgV 0 n = (rng 0 n.toNat).map V.int := by
  unfold rgV rng
  rw [List.map_map, Int.sub_zero]
  rfl
theorem xf_listRange (hc : X.calm = true) (hm : X.mg "list" = none) (hm2 : X.mg "range" = none) (ha : XE X z Γ a tyI wi) (hg : Gl X "list" := by rfl) (hg2 : Gl X "range" := by rfl) (hs : starEach (a :: []) X.env = (false, eval a X.env) :: starEach [] X.env := by rfl)
    (hs2 : starEach [.Call (.Name "range" p) [a] [] p2] X.env = (false, eval (.Call (.Name "range" p) [a] [] p2) X.env) :: starEach [] X.env := by rfl) :
    XF X z Γ (.Call (.Name "list" p') [.Call (.Name "range" p) [a] [] p2] [] pos) tyI (fun k => wi fun n => (-(2 ^ 62) ≤ n ∧ n < 2 ^ 62 ∧ n.toNat ≤ sizeLine) ∧ k (rng 0 n.toNat)) := fun G0 H0 σ G H k Q E hw hk =>
  ⟨_, pe_listRg hc hg hm (prg_1 hg2 hm2 re hs) hs2, ha G0 H0 σ G H _ _ E hw fun G1 H1 v n W1 S1 r ⟨hb, h1⟩ => ⟨n, r, ⟨by decide, by decide, hb.1, hb.2.1, by rw [Int.sub_zero]; exact hb.2.2⟩, by
    rw [rgV_eq]
    exact xf_last W1 S1 (pair_ints _ _) h1 hk⟩⟩
theorem xf_sortS (hm : X.mg "sorted" = none) {wt : (List Str → Prop) → Prop} (h : XL X z Γ a tyS wt) (hg : Gl X "sorted" := by rfl) (hs : starEach (a :: []) X.env = (false, eval a X.env) :: starEach [] X.env := by rfl) :
    XF X z Γ (.Call (.Name "sorted" p) [a] [] pos) tyS (fun k => wt fun xs => xs.length < 64 ∧ k (sortS xs)) := fun G0 H0 σ G H k Q E hw hk =>
  ⟨_, pe_callB cr_sortedS hg hm (by decide +kernel) (pa_cons re pa_nil hs) (by decide) (by decide) hs rfl, h G0 H0 σ G H _ _ E hw fun G1 H1 q vs xs W1 S1 sq r ⟨hl, h1⟩ => ⟨q, xs, rfl, by rw [← paired_strs r]; exact SqL.of sq.r, hl, fun ys p hp hs' np => by
    rw [sortS_eq hp (sortedS_pw ys hs')]
    exact xf_last W1 S1 (pair_strs _ _ fun x hx => paired_sok r x ((sortS_perm xs).mem_iff.mp hx)) h1 hk p np⟩⟩
/-! ### comprehensions that are maps -/
theorem WLc_map {xs : List α} {f : α → β} {k : List β → Prop} (hl : xs.length < sizeLine) (h : k (xs.map f)) : WLc xs (fun _ kk => kk true) (fun x kk => kk (f x)) k :=
  ⟨hl, fun i acc => acc = (xs.take i).map f, by simp, fun i x acc hx hI => by
    show acc ++ [f x] = _
    rw [hI, List.take_add_one, hx]
    simp, fun acc hI => by rw [hI, List.take_length]; exact h⟩
theorem WLc_filter {xs : List α} {f : α → β} {g : α → Bool} {k : List β → Prop} (hl : xs.length < sizeLine) (h : k ((xs.filter g).map f)) : WLc xs (fun x kk => kk (g x)) (fun x kk => kk (f x)) k :=
  ⟨hl, fun i acc => acc = ((xs.take i).filter g).map f, by simp, fun i x acc hx hI => by
    show if g x = true then acc ++ [f x] = ((xs.take (i + 1)).filter g).map f else acc = ((xs.take (i + 1)).filter g).map f
    rw [List.take_add_one, hx]
    cases hg : g x with
    | true => simp [hI, hg]
    | false => simp [hI, hg], fun acc hI => by rw [hI, List.take_length]; exact h⟩
theorem xf_imp {w w' : (List α → Prop) → Prop} (h : XF X z Γ e A w) (f : ∀ k, w' k → w k) : XF X z Γ e A w' := fun G0 H0 σ G H k Q E hw hk => h G0 H0 σ G H k Q E (f k hw) hk
/-! ### isinstance of what is known -/
class IsTy (A : Ty α) (n : outParam String) : Prop where
  ty : ∀ {K : PySem.W.Frag} {z : Zs} {G H : Hp} {v : V} {x : α}, Wd z G H → A.rep G v x → TyX K H v (.type n)
instance : IsTy tyI "int" := ⟨fun _ h => by rw [show _ = V.int _ from h]; exact .base (.int _)⟩
instance : IsTy tyB "bool" := ⟨fun _ h => by rw [show _ = V.bl _ from h]; exact .base (.bl _)⟩
instance : IsTy tyS "str" := ⟨fun _ h => by rw [show _ = V.str _ from h.1]; exact .base (.str _)⟩
instance : IsTy tyU "NoneType" := ⟨fun _ h => by rw [show _ = V.non from h]; exact .base .non⟩
instance : IsTy (tyL A) "list" := ⟨fun W ⟨q, vs, e, hq, _⟩ => by rw [e]; exact .base (.lst (W.of hq nodl))⟩
instance : IsTy (tyM R) "list" := ⟨fun W ⟨q, vs, e, hq, _⟩ => by rw [e]; exact .base (.lst (W.of hq nodl))⟩
instance : IsTy (tyP A) "tuple" := ⟨fun W ⟨q, vs, e, hq, _⟩ => by rw [e]; exact .base (.tup (W.of hq nodt))⟩
instance : IsTy (tyT R) "tuple" := ⟨fun W ⟨q, vs, e, hq, _⟩ => by rw [e]; exact .base (.tup (W.of hq nodt))⟩
instance : IsTy (tyD A) "dict" := ⟨fun W ⟨q, vs, e, hq, _⟩ => by
  rw [e]
  rcases (W.dk hq).r with h | ⟨o, h⟩
  · exact .base (.dK h)
  · exact .fDict h⟩
theorem xe_isi {n c : String} {r : Bool} [IsTy A n] (hm : X.mg "isinstance" = none) (hm2 : X.mg c = none) (hv : bootBuiltins c = some (.type c)) (hk : kitB n c = some r) (h : XE X z Γ a A wa) (hg : Gl X "isinstance" := by rfl) (hg2 : Gl X c := by rfl)
    (hs : starEach (a :: [.Name c p2]) X.env = (false, eval a X.env) :: starEach [.Name c p2] X.env := by rfl) (hs2 : starEach (.Name c p2 :: []) X.env = (false, eval (.Name c p2) X.env) :: starEach [] X.env := by rfl)
    (hpl : (backTo pos (starEach [.Name c p2] X.env)).any (·.1) = false := by rfl) (hn : (c : Str) ≠ "__name__" := by decide) (hd : ((c : Str) == ("__debug__" : Str)) = false := by decide) :
    XE X z Γ (.Call (.Name "isinstance" p) [a, .Name c p2] [] pos) tyB (fun k => wa fun _ => k r) := fun G0 H0 σ G H k Q E hw hk' =>
  ⟨_, pe_callB call_isi hg hm (by decide +kernel) (pa_cons re (pa_cons (pe_bltn (v := .ty c) hg2 hm2 hv rfl hn hd) pa_nil hs2) hs) (by decide) (by decide) hs hpl, h G0 H0 σ G H _ _ E hw fun G1 H1 v x W1 S1 rv h1 =>
    ⟨v, .ty c, _, _, r, rfl, .ty c, IsTy.ty W1 rv, kit_ty hk, hk' G1 H1 _ r W1 S1 rfl h1⟩⟩
/-! ### statements -/
/-- a, b = e -/
theorem xb_unp {is : List Nat} {Γ' : α → List Sl} {wk : α → Prop} (he : XE X z Γ e A wa) (hg : XG X z Γ tg A is Γ') (hn : ∀ y, XB X z ct (Γ' y) rest (wk y))
    (hs : swapsWithSole [tg] e pos.line X.env = pure false := by rfl) (hw2 : swappedStores [tg] e X.env = pure none := by rfl) (h1 : (assignEach [tg] X.env).map (·.2) = [assign tg X.env] := by rfl) :
    XB X z ct Γ (.Assign [tg] e pos :: rest) (wa wk) := fun G0 H0 D σ G H M E hw =>
  ⟨_, pss_cons (ps_asg re rg hs hw2 h1) rs, he G0 H0 σ G H _ _ E hw fun G1 H1 v y W1 S1 r g1 => hg G0 H0 σ G1 H1 v y _ (E.step W1 S1) r fun σ' E' _ => hn y G0 H0 D σ' G1 H1 M E' g1⟩
theorem xb_augAdd (i : Nat) {n : Int} {wk : Int → Prop} (hN : X.N.Nodup) (hi : X.N[i]? = some x) (hx : Loc X.env.scope x) (hΓ : Γ[i]? = some (.fz tyI n)) (he : XE X z Γ e tyI wi) (hn : ∀ y, XB X z ct (Γ.set i (.fz tyI y)) rest (wk y))
    (hf : X.fn x = true ∨ X.env.scope.names.lookup x = some .local := by first | exact .inl rfl | exact .inr rfl) :
    XB X z ct Γ (.AugAssign (.Name x p) .Add e pos :: rest) (wi fun y => wk (n + y)) := fun G0 H0 D σ G H M E hw => by
  obtain ⟨ov, eo, v, rfl, r⟩ := E.at_ hΓ
  refine ⟨_, pss_cons (ps_aug hN hi hx re (ip_add) hf) rs, v, eo, he G0 H0 σ G H _ _ E hw fun G1 H1 u y W1 S1 ry g1 => ?_⟩
  exact ⟨n, y, r, ry, hn _ G0 H0 D _ G1 H1 M ((E.step W1 S1).fz i (show tyI.rep G1 (.int (n + y)) (n + y) from rfl)) g1⟩
end
end Zk
/-! TL11: __init__, try, the law's state. -/
namespace Zk
open PySem PySem.Spec L2

section
variable {X : Cx} {z : Zs} {Γ Γ1 : List Sl} {ct : Ct} {a b c e tg iter : Expr} {es : List Expr} {rest body orelse : List Stmt} {α β γ τ ρ φ : Type} {A : Ty α} {B : Ty β} {C : Ty γ} {R : Row ρ} {Rf : Row φ} {pos p p' p2 tpos : Pos} {x m : Str} {w : Prop}
  {wa : (α → Prop) → Prop} {wb : (β → Prop) → Prop} {wl : (List α → Prop) → Prop} {wi wj wk : (Int → Prop) → Prop} {ws : (Str → Prop) → Prop}
/-! ### fields laid in __init__ -/
theorem fr_put : ∀ {G : Hp} {vs : List (Str × V)} {fs : List (Str × Fz)} {v : V} {g : Fz}, FR G vs fs → m ∉ fs.map (·.1) → g.A.rep G v g.x → FR G (putF m v vs) (fs ++ [(m, g)])
  | _, _, _, _, _, .nil, _, h => .cons ⟨rfl, h⟩ .nil
  | G, (a, u) :: vs, f :: fs, v, g, .cons r t, nm, h => by
    have e1 : a = f.1 := r.1
    have ne : a ≠ m := fun q => nm (by rw [List.map_cons]; exact List.mem_cons.mpr (.inl (by rw [← e1, q])))
    have ne' : (a == m) = false := by rw [beq_eq_false_iff_ne]; exact ne
    have ne2 : (m == a) = false := by rw [beq_eq_false_iff_ne]; exact Ne.symm ne
    have ih := fr_put (v := v) t (fun q => nm (by rw [List.map_cons]; exact List.mem_cons_of_mem _ q)) h
    show FR G (putF m v ((a, u) :: vs)) (f :: (fs ++ [(m, g)]))
    unfold putF
    first
    | rw [if_neg (by simpa using ne)]
      exact .cons r ih
    | rw [if_neg (by simpa using Ne.symm ne)]
      exact .cons r ih
theorem fr_len : ∀ {G : Hp} {vs : List (Str × V)} {fs : List (Str × Fz)}, FR G vs fs → vs.length = fs.length
  | _, _, _, .nil => rfl
  | _, _, _, .cons _ t => congrArg Nat.succ (fr_len t)
/-- self.m = e, the first time -/
theorem xb_fldNew {fs : List (Str × Fz)} {sx : Str} {sp : Pos} {q C : Addr} {wk : α → Prop} (i : Nat) (hΓ : Γ[i]? = some (.ob q C fs)) (hN : X.N[i]? = some sx) (hv : Vis X.env.scope sx) (hc : Cls X.K C) (hn : NoAttr X.K C m) (hnd : m ∉ fs.map (·.1)) (hl : fs.length < 1000)
    (he : XE X z Γ e A wa) (hr : ∀ y, XB X z ct (Γ.set i (.ob q C (fs ++ [(m, ⟨A, y⟩)]))) rest (wk y)) (hs : swapsWith e (some (.Attribute (.Name sx sp) m p')) pos.line X.env = pure false := by rfl)
    (hd : (sx == ("__debug__" : Str)) = false := by decide) (hcd : (sx == ("__classdict__" : Str)) = false := by decide) :
    XB X z ct Γ (.Assign [.Attribute (.Name sx sp) m p'] e pos :: rest) (wa wk) := fun G0 H0 D σ G H M E hw => by
  obtain ⟨ov, eo, dx, vs, rfl, r, q'⟩ := E.at_ hΓ
  refine ⟨_, pss_cons (ps_fld (pe_var hN hv hd hcd) re hs) rs, he G0 H0 σ G H _ _ E hw fun G1 H1 v y W1 S1 ry g1 => ?_⟩
  have r1 := r.step S1
  refine ⟨_, eo, q, C, dx, vs, rfl, r1.h, hc, hn, by rw [fr_len q']; exact hl, ?_⟩
  exact hr y G0 H0 D σ G1 _ M ((E.step W1 S1).mut hΓ eo rfl r1 ⟨dx, _, rfl, ⟨r1.g, r1.z, r1.h0, upd_same⟩, fr_put (FR.mono S1.g q') hnd ry⟩) g1
/-- fields as a row -/
def RowFs (Rf : Row φ) (fs : List (Str × Fz)) (y : φ) : Prop := ∀ G vs, FV G vs fs → Rf.rep G vs y
theorem rf_nil : RowFs Row.nil [] () := fun _ _ h => by cases h; rfl
theorem rf_one {y : α} : RowFs (Row.one A) [(m, ⟨A, y⟩)] y := fun _ _ h => by
  cases h with
  | cons h t => cases t; exact ⟨_, rfl, h⟩
theorem rf_cons {y : α} {fs : List (Str × Fz)} {ys : φ} (h : RowFs Rf fs ys) : RowFs (Row.cons A Rf) ((m, ⟨A, y⟩) :: fs) (y, ys) := fun G _ q => by
  cases q with
  | cons q t => exact ⟨_, _, rfl, q, h G _ t⟩
theorem xb_initEnd {q C : Addr} {ns : List Str} {fs : List (Str × Fz)} (y : φ) {k : φ → Prop} (h0 : Γ[0]? = some (.ob q C fs)) (hn : fs.map (·.1) = ns) (hR : RowFs Rf fs y)
    (hct : ct.n = fun Γ => ∃ (fs : List (Str × Fz)) (z : φ), Γ[0]? = some (.ob q C fs) ∧ fs.map (·.1) = ns ∧ (∀ G vs, FV G vs fs → Rf.rep G vs z) ∧ k z) : XB X z ct Γ [] (k y) := fun G0 H0 D σ G H M E hw =>
  ⟨_, pss_nil, M.n σ G H Γ E (by rw [hct]; exact ⟨fs, y, h0, hn, hR, hw⟩)⟩
/-! ### try around what raises nothing -/
theorem xb_tryThru {h₀ : ExceptHandler} {hs : List ExceptHandler} (hb : XB X.nox z ct Γ body w) (hf : rest = []) : XB X z ct Γ (.Try body (h₀ :: hs) [] [] pos :: rest) w := fun G0 H0 D σ G H M E hw => by
  subst hf
  refine ⟨_, pss_cons (ps_try_thru0 (rs (X := X.nox))) rs, ?_⟩
  have M' : Meets z G0 H0 { D with nx := RS X [] D } ct := ⟨fun σ' G' H' Γ' E' h => ⟨_, pss_nil, M.n σ' G' H' Γ' E' h⟩, M.b, M.c, M.r⟩
  exact hb G0 H0 _ σ G H M' E hw
/-- list(script) -/
theorem sql_up {K : PySem.W.Frag} {G H : Hp} {q : Addr} {vs : List V} (W : Wd z G H) (h : SqL K G q vs) : SqL K H q vs := h.imp (fun h => by
  rcases h with h | ⟨o, h⟩
  · exact .inl (W.of h nodl)
  · rcases W.gh _ _ h with e | ⟨_, _, e, _⟩
    · exact .inr ⟨o, e⟩
    · cases e) id
theorem xf_listZ (hm : X.mg "list" = none) {wz : (List Int → Prop) → Prop} (h : XE X z Γ a (tyZ X.K) wz) (hg : Gl X "list" := by rfl) (hs : starEach (a :: []) X.env = (false, eval a X.env) :: starEach [] X.env := by rfl) : XF X z Γ (.Call (.Name "list" p) [a] [] pos) tyI wz := fun G0 H0 σ G H k Q E hw hk =>
  ⟨_, pe_callTy call_list_of hg hm (by decide +kernel) (pa_cons re pa_nil hs) (by decide) (by decide) hs rfl, h G0 H0 σ G H _ _ E hw fun G1 H1 v xs W1 S1 ⟨q, ev, r⟩ h1 => ⟨q, _, by rw [ev], .inl (sql_up W1 r), xf_last W1 S1 (pair_ints _ _) h1 hk⟩⟩
/-! ### new lists of mixed items -/
def XN (X : Cx) (z : Zs) (Γ : List Sl) (e : Expr) {ρ : Type} (R : Row ρ) (w : (ρ → Prop) → Prop) : Prop :=
  ∀ (G0 H0 : Hp) (σ : L2.St) (G H : Hp) (k : ρ → Prop) (Q : VK), Ev z G0 H0 G H σ Γ → w k →
    (∀ G' H' q vs y, Wd z G' H' → Stp z G H G' H' → H q = none → G' q = none → H' q = some (.lst vs) → R.rep G' vs y → k y → Q (.ref q) H') → RE X e σ H Q
theorem xn_mix {wr : (ρ → Prop) → Prop} (h : XA X z Γ es R wr) (hn : R.n ≤ sizeLine := by show _ ≤ _; decide) : XN X z Γ (.List es pos) R wr := fun G0 H0 σ G H k Q E hw hk =>
  ⟨_, pe_lst ra, h G0 H0 σ G H _ _ E hw fun G1 H1 vs x W1 S1 r1 h1 => ⟨by rw [R.len r1]; exact hn, fun q nq =>
    hk G1 _ q vs x (W1.own nq) (S1.trans (Stp.own nq)) (by
      cases e : H q with
      | none => rfl
      | some o =>
        obtain ⟨o', e'⟩ := S1.t q o e
        rw [nq] at e'
        cases e') (W1.gh.free nq) upd_same r1 h1⟩⟩
/-- name = a new list of mixed items that stays one's own -/
theorem xb_newMx (i : Nat) {wr : (ρ → Prop) → Prop} {wk : ρ → Prop} (hN : X.N.Nodup) (hi : X.N[i]? = some x) (hx : Loc X.env.scope x) (he : XN X z Γ e R wr) (hn : ∀ q y, XB X z ct (Γ.set i (.mx q R y)) rest (wk y))
    (hs : swapsWith e (some (.Name x p')) pos.line X.env = pure false := by rfl) (hf : X.fn x = true ∨ X.env.scope.names.lookup x = some .local := by first | exact .inl rfl | exact .inr rfl) :
    XB X z ct Γ (.Assign [.Name x p'] e pos :: rest) (wr wk) := fun G0 H0 D σ G H M E hw =>
  ⟨_, pss_cons (ps_set hN hi hx re hs hf) rs, he G0 H0 σ G H wk _ E hw fun G1 H1 q vs y W1 S1 nq gq hq r h1 => hn q y G0 H0 D _ G1 H1 M (E.takeOwn W1 S1 i nq ⟨vs, rfl, ⟨gq, E.znew nq, E.h0new nq, hq⟩, r⟩) h1⟩
/-- a def whose answer is a new list of mixed items -/
def spN (R : Row ρ) (Rf : Row φ) (w : ρ → (φ → Prop) → Prop) : Sp := fun vs H Q _ => ∃ (G : Hp) (x : ρ) (k : φ → Prop), Wd Z0 G H ∧ R.rep G vs x ∧ w x k ∧
  ∀ G' H' q us y, Wd Z0 G' H' → Stp Z0 G H G' H' → H q = none → G' q = none → H' q = some (.lst us) → Rf.rep G' us y → k y → Q (.ref q) H'
theorem xn_call {n : Nat} {wr : (ρ → Prop) → Prop} {wf : ρ → (φ → Prop) → Prop} (F : Cle X.prog X.w X.K X.mg X.base x n (spN R Rf wf)) (hr : Room n X.A) (ha : XA X z Γ (e :: es) R wr) (hg : Gl X x := by rfl)
    (hs : starEach (e :: es) X.env = (false, eval e X.env) :: starEach es X.env := by rfl) (hpl : (backTo pos (starEach es X.env)).any (·.1) = false := by rfl) (hdb : (x == ("__debug__" : Str)) = false := by decide) :
    XN X z Γ (.Call (.Name x p) (e :: es) [] pos) Rf (fun k => wr fun y => wf y k) := fun G0 H0 σ G H k Q E hw hk => by
  obtain ⟨f, fd, ps, F, hm, hkp, hb⟩ := F
  refine ⟨_, pe_call F hr hg hm hkp hb .nil pass0 ra hdb hs hpl, ha G0 H0 σ G H _ _ E hw fun G1 H1 vs y W1 S1 r h1 => ?_⟩
  show spN R Rf wf (vs ++ []) H1 Q E0
  rw [List.append_nil]
  exact ⟨G1, y, k, W1.z0, r, h1, fun G' H' q us y' W' S' nq gq hq r' q' => hk G' H' q us y' (W1.after0 W' S') (S1.trans S'.lift) (by
    cases e : H q with
    | none => rfl
    | some o =>
      obtain ⟨o', e'⟩ := S1.t q o e
      rw [nq] at e'
      cases e') gq hq r' q'⟩
/-- one's own list of mixed items becomes the state -/
theorem xb_st (i : Nat) {I : φ → Prop} {q : Addr} {u : φ} (hΓ : Γ[i]? = some (.mx q Rf u)) (hn : XB X ((zmR Rf I).at_ q) ct (Γ.set i .st) rest w)
    (hcn : ∀ Γ Γ', ct.n Γ → ct.n Γ') (hcb : ∀ Γ Γ', ct.b Γ → ct.b Γ') (hcc : ∀ Γ Γ', ct.c Γ → ct.c Γ') (hcr : ∀ Γ Γ' y, ct.r Γ y → ct.r Γ' y) : XB X Z0 ct Γ rest (I u ∧ w) := fun G0 H0 D σ G H M E ⟨hI, hw⟩ => by
  obtain ⟨ov, eo, vs, rfl, r, q'⟩ := E.at_ hΓ
  have back : ∀ {σ' : L2.St} {G' H' : Hp} {Γ' : List Sl}, Ev ((zmR Rf I).at_ q) G0 H0 G' H' σ' Γ' → Ev Z0 G0 H0 G' H' σ' (List.replicate σ'.length .no) := fun {σ' G' H' Γ'} E' => by
    refine ⟨E'.wd.z0, ⟨E'.base.g, fun a o _ h => E'.base.h a o (fun z => ?_) h, E'.base.n, E'.base.t⟩, by rw [List.length_replicate], fun j S o h1 h2 => ?_, fun j k S T o1 o2 l hjk h1 h2 _ _ h3 h4 => ?_⟩
    · have e : q = a := Option.some.inj z
      subst e
      rw [r.h0] at h
      cases h
    · have e := List.eq_of_mem_replicate (List.mem_of_getElem? h1)
      subst e
      trivial
    · have e := List.eq_of_mem_replicate (List.mem_of_getElem? h1)
      subst e
      exact h3
  have E1 : Ev ((zmR Rf I).at_ q) G0 H0 G H σ (Γ.set i .st) := by
    refine ⟨⟨E.wd.gh, fun s es => ?_⟩, E.base.lift, by rw [List.length_set]; exact E.len, fun j S o h1 h2 => ?_, fun j k S T o1 o2 l hjk h1 h2 h3 h4 h5 h6 => ?_⟩
    · have e : q = s := Option.some.inj es
      subst e
      exact ⟨r.g, _, r.h, vs, u, rfl, q', hI⟩
    · by_cases hj : i = j
      · subst hj
        rw [← get_set h1]
        rw [eo] at h2
        cases h2
        exact ⟨q, rfl, rfl⟩
      · rw [List.getElem?_set_ne hj] at h1
        have g := E.sl j S o h1 h2
        have nz : ∀ {l : Addr}, S.fp o l → ((zmR Rf I).at_ q).at_ ≠ some l := fun {l} hf es => by
          have e : q = l := Option.some.inj es
          subst e
          exact E.ap i j _ S _ o q hj hΓ h1 eo h2 rfl hf
        cases S with
        | no => trivial
        | fz A x => exact g
        | st => obtain ⟨_, e, _⟩ := g; cases e
        | ml A xs => obtain ⟨l, vs, e, r, y⟩ := g; exact ⟨l, vs, e, ⟨r.g, nz e, r.h0, r.h⟩, y⟩
        | md A xs => obtain ⟨l, vs, e, r, y⟩ := g; exact ⟨l, vs, e, ⟨r.g, nz e, r.h0, r.h⟩, y⟩
        | ob l C fs => obtain ⟨dx, vs, e, r, y⟩ := g; exact ⟨dx, vs, e, ⟨r.g, nz e, r.h0, r.h⟩, y⟩
        | mx l R x => obtain ⟨vs, e, r, y⟩ := g; exact ⟨vs, e, ⟨r.g, nz e, r.h0, r.h⟩, y⟩
        | rg R R' n c A x => obtain ⟨v, e, r, k, y, f⟩ := g; exact ⟨v, e, r, k, fun a u ha => ⟨(y a u ha).g, nz (by show R' a ≠ none; rw [ha]; intro z; cases z), (y a u ha).h0, (y a u ha).h⟩, f⟩
    · by_cases hj : i = j
      · subst hj
        rw [← get_set h1] at h5
        exact h5
      · by_cases hk : i = k
        · subst hk
          rw [← get_set h2] at h6
          exact h6
        · rw [List.getElem?_set_ne hj] at h1
          rw [List.getElem?_set_ne hk] at h2
          exact E.ap j k S T o1 o2 l hjk h1 h2 h3 h4 h5 h6
  refine hn G0 H0 D σ G H ⟨fun σ' G' H' Γ' E' h => M.n σ' G' H' _ (back E') (hcn _ _ h), fun σ' G' H' Γ' E' h => M.b σ' G' H' _ (back E') (hcb _ _ h), fun σ' G' H' Γ' E' h => M.c σ' G' H' _ (back E') (hcc _ _ h),
    fun σ' G' H' Γ' v y E' r' h => M.r σ' G' H' _ v y (back E') r' (hcr _ _ y h)⟩ E1 hw
end
/-- return e, within the state's def -/
theorem xb_retM {X : Cx} {z : Zs} {Γ : List Sl} {ct : Ct} {e : Expr} {rest : List Stmt} {pos : Pos} {φ : Type} {Rf : Row φ} {I : φ → Prop} {st : Addr} {u' : φ} {k : ct.β → Prop} {wb : (ct.β → Prop) → Prop} (h0 : Γ[0]? = some (.mx st Rf u')) (hct : ct.r = fun Γ z => ∃ u', Γ[0]? = some (.mx st Rf u') ∧ I u' ∧ k z) (he : XE X z Γ e ct.B wb) :
    XB X z ct Γ (.Return (some e) pos :: rest) (wb fun y => I u' ∧ k y) := fun G0 H0 D σ G H M E hw =>
  ⟨_, pss_cons (ps_ret re) rs, he G0 H0 σ G H _ _ E hw fun G1 H1 v y W1 S1 r h1 => M.r σ G1 H1 Γ v y (E.step W1 S1) r (by rw [hct]; exact ⟨u', h0, h1⟩)⟩
section
variable {P : Program} {w : World} {K : PySem.W.Frag} {mg : Str → Option Value} {base : Heap} {ρ β φ : Type} {R : Row ρ} {B : Ty β} {Rf : Row φ} {x qual : Str} {params : Arguments} {e : Expr} {rpos : Pos} {scope : Scope} {f : Addr} {fd : FuncData} {N ps : List Str} {n : Nat}
  {fsl : ρ → List Sl} {wf : ρ → (φ → Prop) → Prop}
/-- def f(..): return [..] -/
theorem cle_N {Γ0 : ρ → List Sl} (F : FunD K x x params [.Return (some e) rpos] scope [] [] f fd) (hm : mg x = some (.ref f)) (S : FnScope N ps scope) (hb : BindOk (qual := x) x params [.Return (some e) rpos] scope ps) (hn : R.n = ps.length) (hN : R.n ≤ N.length) (q : RowSl R fsl) (hΓ : ∀ y, Γ0 y = fsl y ++ List.replicate (N.length - R.n) .no)
    (hB : ∀ (cdv : Value) (A : Around) (outer : List Env) (s : Shared) (H : Hp) (E : XK), Room n (A.deeper (PyProof.Rows.envOfC x scope s.heap.objs.size f cdv)) → ∀ (y : ρ) (k : φ → Prop), XN (cxOf CX0 P w K mg base N x scope f cdv A outer s H E).nox Z0 (Γ0 y) e Rf (wf y)) : Cle P w K mg base x (n + 1) (spN R Rf wf) := by
  refine ⟨f, fd, ps, F.ok S (fun vs H Q E h => ?_) (fun cdv A outer s H vs Q E hr h => ?_), hm, F.kp, F.bindsN hb⟩
  · obtain ⟨G, y, k, _, r, _⟩ := h
    rw [R.len r, hn]
  · obtain ⟨G, y, k, W, r, hw, hk⟩ := h
    refine ⟨_, PSs.nox (pss_cons (ps_ret re) pss_nil), hB cdv A outer s H E hr y k G H _ G H k _ (by rw [hΓ]; exact ev_start q W r hN) hw fun G' H' q' vs' y' W' S' nq gq hq r' k' => hk G' H' q' vs' y' W' S' nq gq hq r' k'⟩
end
end Zk
/-! TL12: regions: lists within lists that stay one's own, are handed out, and are changed afterwards. -/
namespace Zk
open PySem PySem.Spec L2

/-! ### without the state -/
def noSt (Γ : List Sl) : List Sl := Γ.map fun S => match S with
  | .st => .no
  | S => S
theorem noSt_at {Γ : List Sl} {i : Nat} {S : Sl} (h : (noSt Γ)[i]? = some S) : ∃ T, Γ[i]? = some T ∧ (S = .no ∨ (S = T ∧ T ≠ .st)) := by
  unfold noSt at h
  rw [List.getElem?_map] at h
  cases q : Γ[i]? with
  | none => rw [q] at h; cases h
  | some T =>
    rw [q] at h
    have h := Option.some.inj h
    refine ⟨T, rfl, ?_⟩
    cases T <;> first | exact .inl h.symm | exact .inr ⟨h.symm, fun z => nomatch z⟩
/-- all but the state -/
def offSt (z : Zs) (H : Hp) : Hp := fun a => open Classical in if z.at_ = some a then none else H a
theorem offSt_at {z : Zs} {H : Hp} {a : Addr} {u : HO} (h : offSt z H a = some u) : z.at_ ≠ some a ∧ H a = some u := by
  unfold offSt at h
  split at h
  · cases h
  · exact ⟨by assumption, h⟩
theorem Ev.z0 {z : Zs} {G0 H0 G H : Hp} {σ : L2.St} {Γ : List Sl} (E : Ev z G0 H0 G H σ Γ) : Ev Z0 G (offSt z H0) G H σ (noSt Γ) := by
  have mv : ∀ {l : Addr} {w : HO}, Own z H0 G H l w → Own Z0 (offSt z H0) G H l w := fun {l w} r => ⟨r.g, (fun q => nomatch q), (by
    cases q : offSt z H0 l with
    | none => rfl
    | some u =>
      have := (offSt_at q).2
      rw [r.h0] at this
      cases this), r.h⟩
  refine ⟨E.wd.z0, ⟨Same.refl _, fun a o _ e => E.base.h a o (offSt_at e).1 (offSt_at e).2, fun _ _ _ e => e, fun a o e => E.base.t a o (offSt_at e).2⟩, by unfold noSt; rw [List.length_map]; exact E.len, fun i S o h1 h2 => ?_, fun i j S T o1 o2 l hij h1 h2 h3 h4 h5 h6 => ?_⟩
  · obtain ⟨T, h3, e⟩ := noSt_at h1
    rcases e with e | ⟨e, ns⟩
    · subst e; trivial
    · subst e
      have q := E.sl i S o h3 h2
      cases S with
      | no => trivial
      | fz A x => exact q
      | st => exact absurd rfl ns
      | ml A xs => obtain ⟨l, vs, e, r, y⟩ := q; exact ⟨l, vs, e, mv r, y⟩
      | md A xs => obtain ⟨l, vs, e, r, y⟩ := q; exact ⟨l, vs, e, mv r, y⟩
      | ob l C fs => obtain ⟨dx, vs, e, r, y⟩ := q; exact ⟨dx, vs, e, mv r, y⟩
      | mx l R x => obtain ⟨vs, e, r, y⟩ := q; exact ⟨vs, e, mv r, y⟩
      | rg R R' n c A x => obtain ⟨v, e, r, k, y, f⟩ := q; exact ⟨v, e, r, k, fun a u ha => mv (y a u ha), f⟩
  · obtain ⟨S', e1, e2⟩ := noSt_at h1
    obtain ⟨T', e3, e4⟩ := noSt_at h2
    rcases e2 with e2 | ⟨e2, _⟩
    · subst e2; exact h5
    · rcases e4 with e4 | ⟨e4, _⟩
      · subst e4; exact h6
      · subst e2 e4
        exact E.ap i j S T o1 o2 l hij e1 e3 h3 h4 h5 h6

/-! ### new regions -/
structure Nw (R H G' H' : Hp) : Prop where
  nw : ∀ a u, R a = some u → H a = none
  g : ∀ a u, R a = some u → G' a = none
  h : ∀ a u, R a = some u → H' a = some u
  l : ∀ a u, R a = some u → ∃ vs, u = .lst vs
def XR (X : Cx) (z : Zs) (Γ : List Sl) (e : Expr) {α : Type} (A : Ty2 α) (w : (α → Prop) → Prop) : Prop :=
  ∀ (G0 H0 : Hp) (σ : L2.St) (G H : Hp) (k : α → Prop) (Q : VK), Ev z G0 H0 G H σ Γ → w k → (∀ G' H' R v y, Wd z G' H' → Stp z G H G' H' → Nw R H G' H' → A.rep G' R v y → k y → Q v H') → RE X e σ H Q
def XRA (X : Cx) (z : Zs) (Γ : List Sl) (es : List Expr) {ρ : Type} (A : Row2 ρ) (w : (ρ → Prop) → Prop) : Prop :=
  ∀ (G0 H0 : Hp) (σ : L2.St) (G H : Hp) (k : ρ → Prop) (Q : List V → Hp → Prop), Ev z G0 H0 G H σ Γ → w k → (∀ G' H' R v y, Wd z G' H' → Stp z G H G' H' → Nw R H G' H' → A.rep G' R v y → k y → Q v H') → RA X es σ H Q
theorem stp_none {z : Zs} {G H G' H' : Hp} (S : Stp z G H G' H') {q : Addr} (h : H' q = none) : H q = none := by
  cases e : H q with
  | none => rfl
  | some o =>
    obtain ⟨o', e'⟩ := S.t q o e
    rw [h] at e'
    cases e'
def noHp : Hp := fun _ => none
theorem Nw.nil {H G' H' : Hp} : Nw noHp H G' H' := ⟨(fun _ _ h => nomatch h), (fun _ _ h => nomatch h), (fun _ _ h => nomatch h), (fun _ _ h => nomatch h)⟩
theorem Nw.join {z : Zs} {G H G1 H1 G2 H2 R1 R2 : Hp} (W1 : Wd z G1 H1) (S1 : Stp z G H G1 H1) (S2 : Stp z G1 H1 G2 H2) (a : Nw R1 H G1 H1) (hz : ∀ s, z.at_ = some s → H s ≠ none) (b : Nw R2 H1 G2 H2) : Nw (jn R1 R2) H G2 H2 ∧ Same R1 (jn R1 R2) ∧ Same R2 (jn R1 R2) := by
  have nz : ∀ q u, R1 q = some u → z.at_ ≠ some q := fun q u e es => hz q es (a.nw q u e)
  have dj : ∀ q u, R2 q = some u → R1 q = none := fun q u e => by
    cases p : R1 q with
    | none => rfl
    | some w =>
      have := a.h q w p
      rw [b.nw q u e] at this
      cases this
  have at_ : ∀ q u, jn R1 R2 q = some u → R1 q = some u ∨ R2 q = some u := fun q u e => by
    unfold jn at e
    cases p : R2 q with
    | none => rw [p] at e; exact .inl e
    | some w => rw [p] at e; exact .inr e
  refine ⟨⟨fun q u e => ?_, fun q u e => ?_, fun q u e => ?_, fun q u e => (at_ q u e).elim (a.l q u) (b.l q u)⟩, jn_same dj, fun q u e => jn_in e⟩
  · rcases at_ q u e with e | e
    · exact a.nw q u e
    · exact stp_none S1 (b.nw q u e)
  · rcases at_ q u e with e | e
    · exact S2.n q u (a.h q u e) (a.g q u e)
    · exact b.g q u e
  · rcases at_ q u e with e | e
    · exact S2.h q u (nz q u e) (a.h q u e)
    · exact b.h q u e
theorem Nw.add {z : Zs} {G H G1 H1 R1 : Hp} {q : Addr} {ws : List V} (W1 : Wd z G1 H1) (S1 : Stp z G H G1 H1) (a : Nw R1 H G1 H1) (nq : H1 q = none) : Nw (upd R1 q (.lst ws)) H G1 (upd H1 q (.lst ws)) ∧ Same R1 (upd R1 q (.lst ws)) := by
  have r1 : R1 q = none := by
    cases p : R1 q with
    | none => rfl
    | some w =>
      have := a.h q w p
      rw [nq] at this
      cases this
  have at_ : ∀ p u, upd R1 q (.lst ws) p = some u → (p = q ∧ u = .lst ws) ∨ (p ≠ q ∧ R1 p = some u) := fun p u e => by
    by_cases h : p = q
    · subst h; rw [upd_same] at e; exact .inl ⟨rfl, (Option.some.inj e).symm⟩
    · rw [upd_ne h] at e; exact .inr ⟨h, e⟩
  refine ⟨⟨fun p u e => ?_, fun p u e => ?_, fun p u e => ?_, fun p u e => (at_ p u e).elim (fun h => ⟨ws, h.2⟩) fun h => a.l p u h.2⟩, same_new r1⟩
  · rcases at_ p u e with ⟨e1, _⟩ | ⟨_, e⟩
    · rw [e1]; exact stp_none S1 nq
    · exact a.nw p u e
  · rcases at_ p u e with ⟨e1, _⟩ | ⟨_, e⟩
    · rw [e1]; exact W1.gh.free nq
    · exact a.g p u e
  · rcases at_ p u e with ⟨e1, e2⟩ | ⟨h, e⟩
    · rw [e1, e2, upd_same]
    · rw [upd_ne h]; exact a.h p u e
theorem Ev.stH {z : Zs} {G0 H0 G H : Hp} {σ : L2.St} {Γ : List Sl} (E : Ev z G0 H0 G H σ Γ) : ∀ s, z.at_ = some s → H s ≠ none := fun s e h => by
  obtain ⟨_, o, e2, _⟩ := E.wd.zk s e
  rw [h] at e2
  cases e2

section
variable {X : Cx} {z : Zs} {Γ Γ1 : List Sl} {ct : Ct} {a b c e tg iter : Expr} {es : List Expr} {rest body orelse : List Stmt} {α β γ τ ρ φ : Type} {A : Ty α} {A2 : Ty2 α} {B2 : Ty2 β} {B : Ty β} {R2 : Row2 ρ} {pos p p' p2 : Pos} {x m : Str} {w : Prop}
  {wa : (α → Prop) → Prop} {wb : (β → Prop) → Prop} {wl : (List α → Prop) → Prop} {wi wj wk : (Int → Prop) → Prop} {wr : (ρ → Prop) → Prop}
theorem xr_old (h : XE X z Γ e A wa) : XR X z Γ e (t2N A) wa := fun G0 H0 σ G H k Q E hw hk => h G0 H0 σ G H k Q E hw fun G1 H1 v y W1 S1 r h1 => hk G1 H1 noHp v y W1 S1 .nil r h1
theorem xra_nil : XRA X z Γ [] Row2.nil (fun k => k ()) := fun G0 H0 σ G H k Q E hw hk => ⟨_, pa_nil, hk G H noHp [] () E.wd (Stp.refl _ _ _) .nil rfl hw⟩
theorem xra_one (h : XR X z Γ e A2 wa) (hs : starEach (e :: []) X.env = (false, eval e X.env) :: starEach [] X.env := by rfl) : XRA X z Γ [e] (Row2.one A2) wa := fun G0 H0 σ G H k Q E hw hk =>
  ⟨_, pa_cons re pa_nil hs, h G0 H0 σ G H _ _ E hw fun G1 H1 R v x W1 S1 n1 r1 h1 => hk G1 H1 R [v] x W1 S1 n1 ⟨v, rfl, r1⟩ h1⟩
theorem xra_cons (h : XR X z Γ e A2 wa) (hr : XRA X z Γ es R2 wr) (hs : starEach (e :: es) X.env = (false, eval e X.env) :: starEach es X.env := by rfl) : XRA X z Γ (e :: es) (Row2.cons A2 R2) (fun k => wa fun x => wr fun y => k (x, y)) := fun G0 H0 σ G H k Q E hw hk =>
  ⟨_, pa_cons re ra hs, h G0 H0 σ G H _ _ E hw fun G1 H1 R1 v x W1 S1 n1 r1 h1 => hr G0 H0 σ G1 H1 _ _ (E.step W1 S1) h1 fun G2 H2 R2' vs y W2 S2 n2 r2 h2 => by
    obtain ⟨n3, s1, s2⟩ := Nw.join W1 S1 S2 n1 E.stH n2
    exact hk G2 H2 _ (v :: vs) (x, y) W2 (S1.trans S2) n3 ⟨v, vs, rfl, A2.mono S2.g s1 r1, R2.mono (Same.refl _) s2 r2⟩ h2⟩
theorem xr_mix (h : XRA X z Γ es R2 wr) (hl : ∀ G R vs x, R2.rep G R vs x → vs.length ≤ sizeLine) : XR X z Γ (.List es pos) (t2M R2) wr := fun G0 H0 σ G H k Q E hw hk =>
  ⟨_, pe_lst ra, h G0 H0 σ G H _ _ E hw fun G1 H1 R1 vs x W1 S1 n1 r1 h1 => ⟨hl _ _ _ _ r1, fun q nq => by
    obtain ⟨n2, s2⟩ := n1.add (ws := vs) W1 S1 nq
    exact hk G1 _ _ _ x (W1.own nq) (S1.trans (Stp.own nq)) n2 ⟨q, vs, rfl, upd_same, R2.mono (Same.refl _) s2 r1⟩ h1⟩⟩
theorem r2_len {k : Nat} (h : ∀ G R vs x, R2.rep G R vs x → vs.length = k) (hk : k ≤ sizeLine) : ∀ G R vs x, R2.rep G R vs x → vs.length ≤ sizeLine := fun G R vs x r => by rw [h G R vs x r]; exact hk
theorem rl_nil : ∀ G R vs x, Row2.nil.rep G R vs x → vs.length = 0 := fun G R vs x h => by rw [show vs = [] from h]; rfl
theorem rl_one : ∀ G R vs x, (Row2.one A2).rep G R vs x → vs.length = 1 := fun G R vs x ⟨v, h, _⟩ => by rw [h]; rfl
theorem rl_cons {k : Nat} (h : ∀ G R vs x, R2.rep G R vs x → vs.length = k) : ∀ G R vs x, (Row2.cons A2 R2).rep G R vs x → vs.length = k + 1 := fun G R vs x ⟨v, r, e, _, q⟩ => by rw [e, List.length_cons, h G R r _ q]
/-- a new list of old things -/
theorem xr_f (h : XF X z Γ e A wl) : XR X z Γ e (t2L (t2N A)) wl := fun G0 H0 σ G H k Q E hw hk => h G0 H0 σ G H k Q E hw fun G1 H1 q vs xs W1 S1 nq gq hq r h1 => by
  have e1 : ∀ a u, (upd noHp q (.lst vs)) a = some u → a = q ∧ u = .lst vs := fun a u e => by
    by_cases hh : a = q
    · subst hh; rw [upd_same] at e; exact ⟨rfl, (Option.some.inj e).symm⟩
    · rw [upd_ne hh] at e; cases e
  exact hk G1 H1 _ _ xs W1 S1 ⟨fun a u e => by rw [(e1 a u e).1]; exact nq, fun a u e => by rw [(e1 a u e).1]; exact gq, fun a u e => by rw [(e1 a u e).1, (e1 a u e).2]; exact hq, fun a u e => ⟨vs, (e1 a u e).2⟩⟩ ⟨q, vs, rfl, upd_same, r⟩ h1
theorem xr_nil : XR X z Γ (.List [] pos) (t2L A2) (fun k => k []) := fun G0 H0 σ G H k Q E hw hk =>
  ⟨_, pe_lst pa_nil, ⟨Nat.zero_le _, fun q nq => by
    obtain ⟨n2, s2⟩ := (Nw.nil (H := H) (G' := G) (H' := H)).add (ws := []) E.wd (Stp.refl _ _ _) nq
    exact hk G _ _ _ [] (E.wd.own nq) (Stp.own nq) n2 ⟨q, [], rfl, upd_same, .nil⟩ hw⟩⟩
/-- a comprehension of new things, no test -/
def WLr (xs : List α) (we : α → (β → Prop) → Prop) (wk : List β → Prop) : Prop :=
  xs.length < sizeLine ∧ ∃ I : Nat → List β → Prop, I 0 [] ∧ (∀ i x acc, xs[i]? = some x → I i acc → we x fun y => I (i + 1) (acc ++ [y])) ∧ ∀ acc, I xs.length acc → wk acc
theorem WLr_map {xs : List α} {f : α → β} {k : List β → Prop} (hl : xs.length < sizeLine) (h : k (xs.map f)) : WLr xs (fun x kk => kk (f x)) k :=
  ⟨hl, fun i acc => acc = (xs.take i).map f, by simp, fun i x acc hx hI => by
    show acc ++ [f x] = _
    rw [hI, List.take_add_one, hx]
    simp, fun acc hI => by rw [hI, List.take_length]; exact h⟩
theorem xr_imp {w w' : (α → Prop) → Prop} (h : XR X z Γ e A2 w) (f : ∀ k, w' k → w k) : XR X z Γ e A2 w' := fun G0 H0 σ G H k Q E hw hk => h G0 H0 σ G H k Q E (f k hw) hk
section
variable {elt : Expr} {scope : Scope} {own : List (Str × Nat)} {is : List Nat} {ΓT : α → List Sl} {we : α → (β → Prop) → Prop}
end
/-- name = a new region -/
theorem xb_newRg (i : Nat) {wk : α → Prop} (hN : X.N.Nodup) (hi : X.N[i]? = some x) (hx : Loc X.env.scope x) (he : XR X z Γ e A2 wa) (hn : ∀ R y, XB X z ct (Γ.set i (.rg R R true 0 A2 y)) rest (wk y))
    (hs : swapsWith e (some (.Name x p')) pos.line X.env = pure false := by rfl) (hf : X.fn x = true ∨ X.env.scope.names.lookup x = some .local := by first | exact .inl rfl | exact .inr rfl) :
    XB X z ct Γ (.Assign [.Name x p'] e pos :: rest) (wa wk) := fun G0 H0 D σ G H M E hw =>
  ⟨_, pss_cons (ps_set hN hi hx re hs hf) rs, he G0 H0 σ G H wk _ E hw fun G1 H1 R v y W1 S1 n1 r h1 => hn R y G0 H0 D _ G1 H1 M ((E.step W1 S1).setOwn i (S := .rg R R true 0 A2 y) (o := some v)
    ⟨v, rfl, r, Skel.refl R n1.l, fun a u ha => ⟨n1.g a u ha, E.znew (n1.nw a u ha), E.h0new (n1.nw a u ha), n1.h a u ha⟩, fun _ => FixL.refl R v⟩ fun j T o' l hj h1 h2 h3 h4 => by
      have h3 : R l ≠ none := h3
      obtain ⟨u, o⟩ := (E.sl j T _ h1 h2).tracked h4
      cases e : R l with
      | none => exact h3 e
      | some w =>
        have := n1.nw l w e
        rw [o.h] at this
        cases this) h1⟩

/-! ### handed out -/
/-- data without lists -/
class NoL (B : Ty β) : Prop where
  nl : ∀ {G G' : Hp} {v : V} {y : β}, (∀ a u, G a = some u → (∀ vs, u ≠ .lst vs) → G' a = some u) → B.rep G v y → B.rep G' v y
class NoLR (R : Row ρ) : Prop where
  nl : ∀ {G G' : Hp} {v : List V} {y : ρ}, (∀ a u, G a = some u → (∀ vs, u ≠ .lst vs) → G' a = some u) → R.rep G v y → R.rep G' v y
instance : NoL tyI := ⟨fun _ h => h⟩
instance : NoL tyB := ⟨fun _ h => h⟩
instance : NoL tyS := ⟨fun _ h => h⟩
instance : NoL tyU := ⟨fun _ h => h⟩
instance [n : NoL B] : NoL (tyP B) := ⟨fun s ⟨a, vs, e, r, p⟩ => ⟨a, vs, e, s _ _ r (fun _ => by intro z; cases z), Paired.mono (fun _ _ => n.nl s) p⟩⟩
instance [n : NoL B] : NoL (tyN B) := ⟨fun {_ _ _ y} s h => match y, h with
  | none, h => h
  | some _, h => n.nl s h⟩
instance {R : Row ρ} [n : NoLR R] : NoL (tyT R) := ⟨fun s ⟨a, vs, e, r, p⟩ => ⟨a, vs, e, s _ _ r (fun _ => by intro z; cases z), n.nl s p⟩⟩
instance [n : NoL B] : NoL (tyD B) := ⟨fun s ⟨a, vs, e, r, p⟩ => ⟨a, vs, e, s _ _ r (fun _ => by intro z; cases z), Paired.mono (fun _ _ q => ⟨q.1, n.nl s q.2⟩) p⟩⟩
instance {C : Addr} {ns : List Str} {R : Row ρ} [n : NoLR R] : NoL (tyO C ns R) := ⟨fun s ⟨p, dx, vs, e, r, q⟩ => ⟨p, dx, vs, e, s _ _ r (fun _ => by intro z; cases z), n.nl s q⟩⟩
instance : NoLR Row.nil := ⟨fun _ h => h⟩
instance [n : NoL B] : NoLR (Row.one B) := ⟨fun s ⟨v, e, r⟩ => ⟨v, e, n.nl s r⟩⟩
instance {R : Row ρ} [n : NoL B] [m : NoLR R] : NoLR (Row.cons B R) := ⟨fun s ⟨v, r, e, h, q⟩ => ⟨v, r, e, n.nl s h, m.nl s q⟩⟩
/-- the heap without a region -/
def off (R G : Hp) : Hp := fun a => match R a with
  | some _ => none
  | none => G a
theorem off_at {R G : Hp} {a : Addr} {u : HO} (h : off R G a = some u) : R a = none ∧ G a = some u := by
  unfold off at h
  cases q : R a with
  | none => rw [q] at h; exact ⟨rfl, h⟩
  | some w => rw [q] at h; cases h
theorem off_none {R G : Hp} {a : Addr} {u : HO} (h : R a = some u) : off R G a = none := by unfold off; rw [h]
theorem off_some {R G : Hp} {a : Addr} {u : HO} (h : R a = none) (g : G a = some u) : off R G a = some u := by unfold off; rw [h]; exact g
def OnlyL (R : Hp) : Prop := ∀ a u, R a = some u → ∃ vs, u = .lst vs
/-- what runs with the region frozen leaves nothing of it behind -/
theorem rg_back {G0 H0 G H G1 H1 R : Hp} {σ : L2.St} {j : Nat} {n : Bool} {c : Nat} {y : α} (E : Ev z G0 H0 G H σ Γ) (hj : Γ[j]? = some (.rg R R n c A2 y)) (W1 : Wd Z0 G1 H1) (S1 : Stp Z0 (jn G R) H G1 H1) :
    Wd z (off R G1) H1 ∧ Stp z G H (off R G1) H1 := by
  obtain ⟨ov, eo, v, rfl, r, k, q, f⟩ := E.at_ hj
  have sg : Same G (off R G1) := fun a u e => by
    have rn : R a = none := by
      cases p : R a with
      | none => rfl
      | some w =>
        have := (q a w p).g
        rw [e] at this
        cases this
    exact off_some rn (S1.g a u (jn_same (fun a u h => (q a u h).g) a u e))
  refine ⟨⟨fun b u e => W1.gh b u (off_at e).2, fun s es => ?_⟩, sg, fun a o _ h => S1.h a o (fun q => nomatch q) h, fun a o h g => ?_, S1.t⟩
  · obtain ⟨h1, o, h2, h3⟩ := E.wd.zk s es
    have g1 : jn G R s = none := by
      unfold jn
      cases p : R s with
      | none => exact h1
      | some w => exact absurd es (q s w p).z
    refine ⟨?_, o, S1.h s o (fun q => nomatch q) h2, z.mono sg h3⟩
    unfold off
    cases p : R s with
    | none => exact S1.n s o h2 g1
    | some w => rfl
  · unfold off
    cases p : R a with
    | none =>
      refine S1.n a o h ?_
      unfold jn
      rw [p]
      exact g
    | some w => rfl
/-- name = e, that reads a region as frozen, answer without lists -/
theorem xb_callRg (i j : Nat) {R : Hp} {n : Bool} {c : Nat} {y : α} {wk : β → Prop} [nl : NoL B] (hj : Γ[j]? = some (.rg R R n c A2 y)) (hij : i ≠ j) (hN : X.N.Nodup) (hi : X.N[i]? = some x) (hx : Loc X.env.scope x) (he : XE X Z0 (noSt (Γ.set j (.fz A2.T y))) e B wb)
    (hn : ∀ y', XB X z ct (Γ.set i (.fz B y')) rest (wk y'))
    (hs : swapsWith e (some (.Name x p')) pos.line X.env = pure false := by rfl) (hf : X.fn x = true ∨ X.env.scope.names.lookup x = some .local := by first | exact .inl rfl | exact .inr rfl) :
    XB X z ct Γ (.Assign [.Name x p'] e pos :: rest) (wb wk) := fun G0 H0 D σ G H M E hw => by
  obtain ⟨ov, eo, v, rfl, r, k, q, f⟩ := E.at_ hj
  obtain ⟨sg, E2⟩ := E.freezeD (D := R) (S' := .fz A2.T y) hj eo (fun p hp => hp) q rfl ⟨v, rfl, A2.to (fun a u e => (q a u e).g) r⟩
  refine ⟨_, pss_cons (ps_set hN hi hx re hs hf) rs, he _ _ σ _ H wk _ E2.z0 hw fun G1 H1 u y1 W1 S1 ru h1 => ?_⟩
  obtain ⟨W, S⟩ := rg_back E hj W1 S1
  refine hn y1 G0 H0 D _ _ H1 M ((E.step W S).fz i (NoL.nl (fun a u e hu => ?_) ru)) h1
  have rn : R a = none := by
    cases p : R a with
    | none => rfl
    | some w =>
      obtain ⟨vs, ew⟩ := k.only a w p
      have g1 : G1 a = some w := S1.g a w (jn_in p)
      rw [e] at g1
      exact absurd ((Option.some.inj g1).trans ew) (hu vs)
  exact off_some rn e
/-! ### changed afterwards: paths into the region -/
def XP (X : Cx) (z : Zs) (Γ : List Sl) (R R' : Hp) (e : Expr) {β : Type} (B : Ty2 β) (w : (β → Prop) → Prop) : Prop :=
  ∀ (G0 H0 : Hp) (σ : L2.St) (G H : Hp) (k : β → Prop) (Q : VK), Ev z G0 H0 G H σ Γ → w k → (∀ G' H' v v' y, Wd z G' H' → Stp z G H G' H' → B.rep G' R v y → Kd R v v' → k y → Q v' H') → RE X e σ H Q
theorem xp_name (i : Nat) {R R' : Hp} {n : Bool} {c : Nat} {x : Str} {y : α} (hΓ : Γ[i]? = some (.rg R R' n c A2 y)) (hN : X.N[i]? = some x) (hv : Vis X.env.scope x) (hd : (x == ("__debug__" : Str)) = false := by decide) (hcd : (x == ("__classdict__" : Str)) = false := by decide) :
    XP X z Γ R R' (.Name x pos) A2 (fun k => k y) := fun G0 H0 σ G H k Q E hw hk => by
  obtain ⟨o, e, v, rfl, r, sk, q, f⟩ := E.at_ hΓ
  exact ⟨_, pe_var hN hv hd hcd, v, e, hk G H v v y E.wd (Stp.refl _ _ _) r (Kd.refl _ _) hw⟩
/-- the region's slot, somewhere -/
structure RgOk (z : Zs) (c : Nat) (R R' H0 G H : Hp) : Prop where
  sk : Skel c R R'
  ow : ∀ a u, R' a = some u → Own z H0 G H a u
theorem RgOk.of {G0 H0 G H R R' : Hp} {σ : L2.St} {j : Nat} {n : Bool} {c : Nat} {y : α} (E : Ev z G0 H0 G H σ Γ) (hj : Γ[j]? = some (.rg R R' n c A2 y)) : RgOk z c R R' H0 G H := by
  obtain ⟨ov, eo, v, rfl, r, k, q, f⟩ := E.at_ hj
  exact ⟨k, q⟩
/-- an old list of the region as it stands now -/
theorem RgOk.now {c : Nat} {H0 G H R R' : Hp} (h : RgOk z c R R' H0 G H) {q : Addr} {vs : List V} (e : R q = some (.lst vs)) : ∃ vs', R' q = some (.lst vs') ∧ SkV c R vs vs' ∧ Own z H0 G H q (.lst vs') := by
  obtain ⟨vs', e', s⟩ := h.sk.lst q vs e
  exact ⟨vs', e', s, h.ow q _ e'⟩
theorem SkV.atI {c : Nat} {R : Hp} {vs vs' : List V} (s : SkV c R vs vs') {i : Nat} {v : V} (h : vs[i]? = some v) : ∃ v', vs'[i]? = some v' ∧ Kd R v v' := s.2 i v h
theorem xp_ix (j : Nat) {R R' : Hp} {n : Bool} {c : Nat} {y0 : α} (hj : Γ[j]? = some (.rg R R' n c A2 y0)) {wl2 : (List β → Prop) → Prop} (h : XP X z Γ R R' a (t2L B2) wl2) (hi : XE X z Γ b tyI wi) (hs : PlainIx b) : XP X z Γ R R' (.Subscript a b pos) B2 (fun k => wl2 fun xs => wi fun i => 0 ≤ i ∧ ∃ y, xs[i.toNat]? = some y ∧ k y) := fun G0 H0 σ G H k Q E hw hk =>
  ⟨_, pe_ix ix_list re re hs, h G0 H0 σ G H _ _ E hw fun G1 H1 v v' xs W1 S1 r kd h1 => hi G0 H0 σ G1 H1 _ _ (E.step W1 S1) h1 fun G2 H2 u i W2 S2 ri ⟨i0, y, ey, h2⟩ => by
    obtain ⟨q, vs, ev, rq, p⟩ := r
    have E2 := (E.step W1 S1).step W2 S2
    obtain ⟨vs', rq', sk, ow⟩ := (RgOk.of E2 hj).now rq
    obtain ⟨w, ew, rw'⟩ := Paired.at_ p ey
    obtain ⟨w', ew', kw⟩ := sk.atI ew
    have e1 := kd.lst q vs ev rq
    refine ⟨q, vs', i, w', by rw [e1, ev], ri, SqL.of ow.h, ?_, hk G2 H2 w w' y W2 (S1.trans S2) (B2.mono S2.g (Same.refl _) rw') kw h2⟩
    have e2 : i = (i.toNat : Int) := by omega
    rw [e2]
    exact atI_nat ew'⟩
/-- the i-th of a row of the region -/
def RowAt2 {ρ : Type} (R2 : Row2 ρ) (i : Nat) (A2 : Ty2 α) (f : ρ → α) : Prop := ∀ G R vs x, R2.rep G R vs x → ∃ v, vs[i]? = some v ∧ A2.rep G R v (f x)
theorem ra2_one : RowAt2 (Row2.one A2) 0 A2 id := fun _ _ _ _ ⟨v, e, r⟩ => ⟨v, by rw [e]; rfl, r⟩
theorem ra2_zero {ρ : Type} {R2 : Row2 ρ} : RowAt2 (Row2.cons A2 R2) 0 A2 Prod.fst := fun _ _ _ _ ⟨v, r, e, h, _⟩ => ⟨v, by rw [e]; rfl, h⟩
theorem ra2_succ {ρ : Type} {R2 : Row2 ρ} {i : Nat} {f : ρ → α} (h : RowAt2 R2 i A2 f) : RowAt2 (Row2.cons B2 R2) (i + 1) A2 (fun x => f x.2) := fun G R _ _ ⟨v, r, e, _, q⟩ => by
  obtain ⟨u, h1, h2⟩ := h G R _ _ q
  exact ⟨u, by rw [e]; exact h1, h2⟩
theorem xp_ixM (j : Nat) {R R' : Hp} {n : Bool} {c : Nat} {y0 : α} (hj : Γ[j]? = some (.rg R R' n c A2 y0)) {f : ρ → β} {i : Nat} (h : XP X z Γ R R' a (t2M R2) wr) (hr : RowAt2 R2 i B2 f) (hi : XE X z Γ b tyI (fun k => k (i : Int))) (hs : PlainIx b) : XP X z Γ R R' (.Subscript a b pos) B2 (fun k => wr fun x => k (f x)) := fun G0 H0 σ G H k Q E hw hk =>
  ⟨_, pe_ix ix_list re re hs, h G0 H0 σ G H _ _ E hw fun G1 H1 v v' x W1 S1 r kd h1 => hi G0 H0 σ G1 H1 (fun q => q = (i : Int)) _ (E.step W1 S1) rfl fun G2 H2 u i' W2 S2 ri ei => by
    obtain ⟨q, vs, ev, rq, p⟩ := r
    have E2 := (E.step W1 S1).step W2 S2
    obtain ⟨vs', rq', sk, ow⟩ := (RgOk.of E2 hj).now rq
    obtain ⟨w, ew, rw'⟩ := hr G1 R vs x p
    obtain ⟨w', ew', kw⟩ := sk.atI ew
    have e1 := kd.lst q vs ev rq
    subst ei
    exact ⟨q, vs', i, w', by rw [e1, ev], ri, SqL.of ow.h, atI_nat ew', hk G2 H2 w w' _ W2 (S1.trans S2) (B2.mono S2.g (Same.refl _) rw') kw h1⟩⟩
/-- a number of the region, whatever it is now -/
theorem xe_pI {R R' : Hp} (h : XP X z Γ R R' e (t2N tyI) wi) : XE X z Γ e tyI (fun k => wi fun _ => ∀ n, k n) := fun G0 H0 σ G H k Q E hw hk =>
  h G0 H0 σ G H _ _ E hw fun G1 H1 v v' y W1 S1 r kd h1 => by
    obtain ⟨n, e⟩ := kd.int y r
    exact hk G1 H1 v' n W1 S1 e (h1 n)
/-- as long as it was -/
theorem xe_lenRg (i : Nat) {R R' : Hp} {c : Nat} {x : Str} {ys : List β} (hm : X.mg "len" = none) (hΓ : Γ[i]? = some (.rg R R' true c (t2L B2) ys)) (hN : X.N[i]? = some x) (hv : Vis X.env.scope x) (hg : Gl X "len" := by rfl) (hs : starEach (.Name x p2 :: []) X.env = (false, eval (.Name x p2) X.env) :: starEach [] X.env := by rfl) (hd : (x == ("__debug__" : Str)) = false := by decide) (hcd : (x == ("__classdict__" : Str)) = false := by decide) :
    XE X z Γ (.Call (.Name "len" p) [.Name x p2] [] pos) tyI (fun k => k (ys.length : Int)) := fun G0 H0 σ G H k Q E hw hk => by
  obtain ⟨o, e, v, rfl, r, sk, ow, f⟩ := E.at_ hΓ
  obtain ⟨q, vs, ev, rq, p'⟩ := r
  obtain ⟨vs', e', s⟩ := sk.lst q vs rq
  refine ⟨_, pe_callB call_len_seq hg hm PySem.boot_len (pa_cons (pe_var hN hv hd hcd) pa_nil hs) (by decide) (by decide) hs rfl, v, e, ⟨q, vs', by rw [ev], .inl (SqL.of (ow q _ e').h), ?_⟩⟩
  have l := f rfl q vs vs' ev rq e'
  exact hk G H _ _ E.wd (Stp.refl _ _ _) (by rw [← l, p'.length]; rfl) hw
/-- a list of the region changes, item by item of its kind -/
theorem SkV.mono {c c' : Nat} {R : Hp} {vs ws : List V} (h : SkV c R vs ws) (l : c ≤ c') : SkV c' R vs ws := ⟨⟨h.1.1, Nat.le_trans h.1.2 (Nat.add_le_add_left l _)⟩, h.2⟩
theorem Skel.set {c c' : Nat} {R R' : Hp} (s : Skel c R R') (hc : c ≤ c') {q : Addr} {vs ws : List V} (e : R q = some (.lst vs)) (h : SkV c' R vs ws) : Skel c' R (upd R' q (.lst ws)) := by
  refine ⟨fun a => ?_, fun a us ha => ?_, s.only⟩
  · by_cases h : a = q
    · subst h; rw [upd_same, e]; exact ⟨(fun z => nomatch z), (fun z => nomatch z)⟩
    · rw [upd_ne h]; exact s.dom a
  · by_cases hq : a = q
    · subst hq
      rw [e] at ha
      cases ha
      exact ⟨ws, upd_same, h⟩
    · rw [upd_ne hq]
      obtain ⟨us', h1, h2⟩ := s.lst a us ha
      exact ⟨us', h1, h2.mono hc⟩
theorem SkV.setAt {c : Nat} {R : Hp} {vs vs' : List V} (s : SkV c R vs vs') {j : Nat} {v u : V} (hv : vs[j]? = some v) (kd : Kd R v u) : SkV c R vs (vs'.set j u) := by
  refine ⟨⟨by rw [List.length_set]; exact s.1.1, by rw [List.length_set]; exact s.1.2⟩, fun i w hw => ?_⟩
  by_cases h : j = i
  · subst h
    rw [hv] at hw
    cases hw
    have hl : j < vs'.length := Nat.lt_of_lt_of_le (List.getElem?_eq_some_iff.mp hv).1 s.1.1
    exact ⟨u, List.getElem?_set_self hl, kd⟩
  · rw [List.getElem?_set_ne h]
    exact s.2 i w hw
theorem SkV.app {c : Nat} {R : Hp} {vs vs' : List V} (s : SkV c R vs vs') (u : V) : SkV (c + 1) R vs (vs' ++ [u]) := by
  refine ⟨⟨by rw [List.length_append]; exact Nat.le_trans s.1.1 (Nat.le_add_right _ _), by rw [List.length_append]; have := s.1.2; show vs'.length + 1 ≤ _; omega⟩, fun i w hw => ?_⟩
  obtain ⟨w', h1, h2⟩ := s.2 i w hw
  have hl : i < vs'.length := (List.getElem?_eq_some_iff.mp h1).1
  exact ⟨w', by rw [List.getElem?_append_left hl]; exact h1, h2⟩
/-- the slot behind a change at q -/
theorem Ev.mutRg {G0 H0 G H R R' : Hp} {σ : L2.St} {i : Nat} {n n' : Bool} {c c' : Nat} {y : α} (E : Ev z G0 H0 G H σ Γ) (hi : Γ[i]? = some (.rg R R' n c A2 y)) {q : Addr} {vs vs' ws : List V} (e : R q = some (.lst vs)) (e' : R' q = some (.lst vs')) (hc : c ≤ c') (h : SkV c' R vs ws)
    (hn : ∀ v, (n = true → FixL R R' v) → A2.rep G R v y → n' = true → FixL R (upd R' q (.lst ws)) v) : Ev z G0 H0 G (upd H q (.lst ws)) σ (Γ.set i (.rg R (upd R' q (.lst ws)) n' c' A2 y)) := by
  obtain ⟨o, eo, v, rfl, r, sk, ow, f⟩ := E.at_ hi
  have oq := ow q _ e'
  refine E.mut hi eo (show R' q ≠ none by rw [e']; intro z; cases z) oq ⟨v, rfl, r, Skel.set sk hc e h, fun a u ha => ?_, fun h' => hn v f r h'⟩ fun l hl => ?_
  · by_cases h : a = q
    · subst h
      rw [upd_same] at ha
      cases ha
      exact ⟨oq.g, oq.z, oq.h0, upd_same⟩
    · rw [upd_ne h] at ha
      have oa := ow a u ha
      exact ⟨oa.g, oa.z, oa.h0, by rw [upd_ne h]; exact oa.h⟩
  · show R' l ≠ none
    have hl : upd R' q (.lst ws) l ≠ none := hl
    by_cases h : l = q
    · rw [h, e']; intro z; cases z
    · rw [upd_ne h] at hl; exact hl
theorem fix_set {R R' : Hp} {q : Addr} {vs' ws : List V} (e' : R' q = some (.lst vs')) (hl : ws.length = vs'.length) {v : V} (f : FixL R R' v) : FixL R (upd R' q (.lst ws)) v := fun l us us' ev h h' => by
  by_cases hq : l = q
  · subst hq
    rw [upd_same] at h'
    cases h'
    rw [hl]
    exact f l us vs' ev h e'
  · rw [upd_ne hq] at h'
    exact f l us us' ev h h'
/-- path[b] = e, a number for a number -/
theorem xb_mutI (i : Nat) {R R' : Hp} {n : Bool} {c : Nat} {y : α} {wk : Prop} {f : ρ → Int} {j : Nat} (hΓ : Γ[i]? = some (.rg R R' n c A2 y)) (hp : XP X z Γ R R' a (t2M R2) wr) (hr : RowAt2 R2 j (t2N tyI) f) (hb : XE X z Γ b tyI (fun k => k (j : Int))) (he : XE X z Γ e tyI wi)
    (hn : ∀ R', XB X z ct (Γ.set i (.rg R R' n c A2 y)) rest wk)
    (hs : swapsWithSole [.Subscript a b p2] e pos.line X.env = pure false := by rfl) (hw2 : swappedStores [.Subscript a b p2] e X.env = pure none := by rfl)
    (h1 : (assignEach [.Subscript a b p2] X.env).map (·.2) = [assign (.Subscript a b p2) X.env] := by rfl)
    (ha : ∀ v, assign (.Subscript a b p2) X.env v = (do
      let ov ← holding [v] (eval a X.env)
      let iv ← holding [v, ov] (eval b X.env)
      standAt p2
      holding [v, ov, iv] (setItem ov iv v)
      release [v, ov, iv] []) := by intro _; rfl) :
    XB X z ct Γ (.Assign [.Subscript a b p2] e pos :: rest) (wi fun _ => wr fun _ => wk) := fun G0 H0 D σ G H M E hw => by
  refine ⟨_, pss_cons (ps_asg re (pg_sub re re set_list ha) hs hw2 h1) rs, ?_⟩
  refine he G0 H0 σ G H _ _ E hw fun G1 H1 u n1 W1 S1 ru g1 => ?_
  refine hp G0 H0 σ G1 H1 _ _ (E.step W1 S1) g1 fun G2 H2 v v' x W2 S2 r kd g2 => ?_
  refine hb G0 H0 σ G2 H2 (fun q => q = (j : Int)) _ ((E.step W1 S1).step W2 S2) rfl fun G3 H3 iv j' W3 S3 rj ej => ?_
  subst ej
  have E3 := ((E.step W1 S1).step W2 S2).step W3 S3
  obtain ⟨q, vs, ev, rq, p⟩ := r
  obtain ⟨w, ew, rw'⟩ := hr G2 R vs x p
  obtain ⟨vs', rq', sk, ow⟩ := (RgOk.of E3 hΓ).now rq
  have e1 := kd.lst q vs ev rq
  have hl : j < vs'.length := Nat.lt_of_lt_of_le (List.getElem?_eq_some_iff.mp ew).1 sk.1.1
  refine ⟨q, vs', j, j, by rw [e1, ev], rj, ow.h, ?_, ?_⟩
  · unfold ixN
    rw [if_pos (by omega), if_pos (by omega)]
    simp
  · have kd2 : Kd R w u := by
      have e2 : w = V.int (f x) := rw'
      have e3 : u = V.int n1 := ru
      rw [e2, e3]
      exact ⟨fun _ _ => ⟨n1, rfl⟩, fun _ h => (nomatch h), fun _ _ h => (nomatch h)⟩
    exact hn _ G0 H0 D σ G3 _ M (E3.mutRg hΓ rq rq' (Nat.le_refl _) (sk.setAt ew kd2) fun v f r h => fix_set rq' List.length_set (f h)) g2
/-- path[b] = e, a text for a text -/
theorem xb_mutS (i : Nat) {R R' : Hp} {n : Bool} {c : Nat} {y : α} {wk : Prop} {ws : (Str → Prop) → Prop} {f : ρ → Str} {j : Nat} (hΓ : Γ[i]? = some (.rg R R' n c A2 y)) (hp : XP X z Γ R R' a (t2M R2) wr) (hr : RowAt2 R2 j (t2N tyS) f) (hb : XE X z Γ b tyI (fun k => k (j : Int))) (he : XE X z Γ e tyS ws)
    (hn : ∀ R', XB X z ct (Γ.set i (.rg R R' n c A2 y)) rest wk)
    (hs : swapsWithSole [.Subscript a b p2] e pos.line X.env = pure false := by rfl) (hw2 : swappedStores [.Subscript a b p2] e X.env = pure none := by rfl)
    (h1 : (assignEach [.Subscript a b p2] X.env).map (·.2) = [assign (.Subscript a b p2) X.env] := by rfl)
    (ha : ∀ v, assign (.Subscript a b p2) X.env v = (do
      let ov ← holding [v] (eval a X.env)
      let iv ← holding [v, ov] (eval b X.env)
      standAt p2
      holding [v, ov, iv] (setItem ov iv v)
      release [v, ov, iv] []) := by intro _; rfl) :
    XB X z ct Γ (.Assign [.Subscript a b p2] e pos :: rest) (ws fun _ => wr fun _ => wk) := fun G0 H0 D σ G H M E hw => by
  refine ⟨_, pss_cons (ps_asg re (pg_sub re re set_list ha) hs hw2 h1) rs, ?_⟩
  refine he G0 H0 σ G H _ _ E hw fun G1 H1 u n1 W1 S1 ru g1 => ?_
  refine hp G0 H0 σ G1 H1 _ _ (E.step W1 S1) g1 fun G2 H2 v v' x W2 S2 r kd g2 => ?_
  refine hb G0 H0 σ G2 H2 (fun q => q = (j : Int)) _ ((E.step W1 S1).step W2 S2) rfl fun G3 H3 iv j' W3 S3 rj ej => ?_
  subst ej
  have E3 := ((E.step W1 S1).step W2 S2).step W3 S3
  obtain ⟨q, vs, ev, rq, p⟩ := r
  obtain ⟨w, ew, rw'⟩ := hr G2 R vs x p
  obtain ⟨vs', rq', sk, ow⟩ := (RgOk.of E3 hΓ).now rq
  have e1 := kd.lst q vs ev rq
  have hl : j < vs'.length := Nat.lt_of_lt_of_le (List.getElem?_eq_some_iff.mp ew).1 sk.1.1
  refine ⟨q, vs', j, j, by rw [e1, ev], rj, ow.h, ?_, ?_⟩
  · unfold ixN
    rw [if_pos (by omega), if_pos (by omega)]
    simp
  · have kd2 : Kd R w u := by
      have e2 : w = V.str (f x) := rw'.1
      have e3 : u = V.str n1 := ru.1
      rw [e2, e3]
      exact ⟨fun _ h => (nomatch h), fun _ _ => ⟨n1, rfl⟩, fun _ _ h => (nomatch h)⟩
    exact hn _ G0 H0 D σ G3 _ M (E3.mutRg hΓ rq rq' (Nat.le_refl _) (sk.setAt ew kd2) fun v f r h => fix_set rq' List.length_set (f h)) g2
theorem fix_app {G R R' : Hp} {q : Addr} {vs' ws : List V} (e' : R' q = some (.lst vs')) {v : V} (f : FixL R R' v) (hne : v ≠ .ref q) : FixL R (upd R' q (.lst ws)) v := fun l us us' ev h h' => by
  by_cases hq : l = q
  · subst hq
    exact absurd ev hne
  · rw [upd_ne hq] at h'
    exact f l us us' ev h h'
/-- path.append(e) -/
theorem xb_mutApp (i : Nat) {R R' : Hp} {n : Bool} {c : Nat} {y : α} {wk : Prop} {C2 : Ty2 γ} {wc : (List γ → Prop) → Prop} {apos cpos : Pos} (n' : Bool) (hΓ : Γ[i]? = some (.rg R R' n c A2 y)) (hp : XP X z Γ R R' a (t2L C2) wc) (he : XE X z Γ e B wb)
    (hf : ∀ G v w xs, n' = true → n = true → A2.rep G R v y → (t2L C2).rep G R w xs → (∀ a u, R a = some u → G a = none) → v ≠ w) (hnn : n' = true → n = true) (hn : ∀ R', XB X z ct (Γ.set i (.rg R R' n' (c + 1) A2 y)) rest wk)
    (hs : starEach (e :: []) X.env = (false, eval e X.env) :: starEach [] X.env := by rfl)
    (hbase : attributeBase a "append" X.env (eval a X.env) = eval a X.env := by rfl)
    (hfew : ((backTo cpos (starEach (e :: []) X.env)).all (fun x => !x.1) && (backToKw cpos (keywordEach [] X.env)).all (fun x => x.1.isSome)
      && decide ((e :: []).length + ([] : List Keyword).length + (if ([] : List Keyword).isEmpty then 0 else 1) < 30)) = true := by rfl)
    (hline : (apos.endLine == cpos.line) = true := by rfl) (hsw : swapsWith (.Call (.Attribute a "append" apos) [e] [] cpos) none pos.line X.env = pure false := by rfl) :
    XB X z ct Γ (.Expr (.Call (.Attribute a "append" apos) [e] [] cpos) pos :: rest) (wc fun xs => wb fun _ => xs.length + c < sizeLine ∧ wk) := fun G0 H0 D σ G H M E hw => by
  refine ⟨_, pss_cons (ps_expr (pe_bm PySem.F.plainAttrs_list PySem.F.slot_list_append PySem.F.type_list_append mt_append re (pa_cons re pa_nil hs) hbase hfew hline hs rfl) hsw) rs, ?_⟩
  refine hp G0 H0 σ G H _ _ E hw fun G1 H1 v v' xs W1 S1 r kd g1 => ?_
  have E1 := E.step W1 S1
  obtain ⟨q, vs, ev, rq, p⟩ := id r
  obtain ⟨vs', rq', sk, ow⟩ := (RgOk.of E1 hΓ).now rq
  have e1 : v' = .ref q := by rw [kd.lst q vs ev rq, ev]
  subst e1
  refine ⟨.inl ⟨rfl, vs', SqL.of ow.h⟩, he G0 H0 σ G1 H1 _ _ E1 g1 fun G2 H2 u yy W2 S2 ru ⟨hl, g2⟩ => ?_⟩
  have E2 := E1.step W2 S2
  have ow2 := ow.step S2
  have hlen := sk.1.2
  refine ⟨q, vs', u, rfl, rfl, ow2.h, ?_, ?_⟩
  · have : vs.length = xs.length := p.length
    omega
  · refine hn _ G0 H0 D σ G2 _ M (E2.mutRg (n' := n') hΓ rq rq' (Nat.le_succ _) (sk.app u) fun v2 f r2 h2 => ?_) g2
    refine fix_app (G := G2) rq' (f (hnn h2)) ?_
    have r' := (t2L C2).mono S2.g (Same.refl _) r
    rw [ev] at r'
    exact hf G2 v2 (.ref q) xs h2 (hnn h2) r2 r' fun a u ha => by
      obtain ⟨o, eo, v3, rfl, r3, sk3, ow3, f3⟩ := E2.at_ hΓ
      cases e3 : R' a with
      | none =>
        have := (sk3.dom a).mpr e3
        rw [ha] at this
        cases this
      | some w => exact (ow3 a w e3).g
/-- the outer list holds lists, the inner one texts -/
theorem dst_MS {R2 : Row2 ρ} {G R : Hp} {v w : V} {ys : List ρ} {xs : List Str} (h : (t2L (t2M R2)).rep G R v ys) (h2 : (t2L (t2N tyS)).rep G R w xs) (hy : ys ≠ []) : v ≠ w := fun e => by
  obtain ⟨q, vs, ev, rq, p⟩ := h
  obtain ⟨q2, vs2, ev2, rq2, p2⟩ := h2
  rw [e, ev2] at ev
  cases ev
  rw [rq] at rq2
  cases rq2
  cases p with
  | nil => exact hy rfl
  | cons h t =>
    cases p2 with
    | cons h2 t2 =>
      obtain ⟨l, us, el, _⟩ := h
      rw [el] at h2
      cases (show V.ref l = V.str _ from h2.1)
end
end Zk
/-! TL13: the statement rules again, each with what it asks as an implication, so that a printed reading flows from the top down. -/
namespace Zk
open PySem PySem.Spec L2
/-- a value named -/
def Bnd {α : Type} (v : α) (k : α → Prop) : Prop := k v
/-- what follows, named -/
def Jn {τ : Type} (wj : τ → Prop) (g : (τ → Prop) → Prop) : Prop := g wj
section
variable {X : Cx} {z : Zs} {Γ Γ1 : List Sl} {ct : Ct} {a b c e o tg iter : Expr} {es : List Expr} {rest body orelse : List Stmt} {α β γ τ ρ φ : Type} {A : Ty α} {B : Ty β} {A2 : Ty2 α} {B2 : Ty2 β} {R : Row ρ} {R2 : Row2 ρ} {Rf : Row φ} {pos p p' p2 : Pos} {x m : Str} {w : Prop}
  {wa : (α → Prop) → Prop} {wb : (β → Prop) → Prop} {wl : (List α → Prop) → Prop} {wi : (Int → Prop) → Prop} {ws : (Str → Prop) → Prop} {wc : (Bool → Prop) → Prop} {wr : (ρ → Prop) → Prop}
theorem y_join {ΓJ : τ → List Sl} {wj : τ → Prop} (s : τ) (h : Cv Γ (ΓJ s)) (hn : ct.n = J ΓJ wj) (hw : w → wj s) : XB X z ct Γ [] w := xb_imp hw (xb_join s h hn)
theorem y_break {ΓJ : τ → List Sl} {wj : τ → Prop} (s : τ) (h : Cv Γ (ΓJ s)) (hn : ct.b = J ΓJ wj) (hw : w → wj s) : XB X z ct Γ (.Break pos :: rest) w := xb_imp hw (xb_break s h hn)
theorem y_continue {ΓJ : τ → List Sl} {wj : τ → Prop} (s : τ) (h : Cv Γ (ΓJ s)) (hn : ct.c = J ΓJ wj) (hw : w → wj s) : XB X z ct Γ (.Continue pos :: rest) w := xb_imp hw (xb_continue s h hn)
theorem y_never {st : Stmt} (hw : w → False) : XB X z ct Γ (st :: rest) w := xb_imp hw xb_never
theorem y_nil (hw : w → ct.n Γ) : XB X z ct Γ [] w := xb_imp hw xb_nil
theorem y_set (i : Nat) {wk : α → Prop} (hN : X.N.Nodup) (hi : X.N[i]? = some x) (hx : Loc X.env.scope x) (he : XE X z Γ e A wa) (hw : w → wa fun v => Bnd v wk) (hn : ∀ y, XB X z ct (Γ.set i (.fz A y)) rest (wk y))
    (hs : swapsWith e (some (.Name x p')) pos.line X.env = pure false := by rfl) (hf : X.fn x = true ∨ X.env.scope.names.lookup x = some .local := by first | exact .inl rfl | exact .inr rfl) :
    XB X z ct Γ (.Assign [.Name x p'] e pos :: rest) w := xb_imp hw (xb_set i hN hi hx he hn hs hf)
theorem y_setF (i : Nat) {wk : List α → Prop} (hN : X.N.Nodup) (hi : X.N[i]? = some x) (hx : Loc X.env.scope x) (he : XF X z Γ e A wl) (hw : w → wl fun v => Bnd v wk) (hn : ∀ y, XB X z ct (Γ.set i (.ml A y)) rest (wk y))
    (hs : swapsWith e (some (.Name x p')) pos.line X.env = pure false := by rfl) (hf : X.fn x = true ∨ X.env.scope.names.lookup x = some .local := by first | exact .inl rfl | exact .inr rfl) :
    XB X z ct Γ (.Assign [.Name x p'] e pos :: rest) w := xb_imp hw (xb_setF i hN hi hx he hn hs hf)
theorem y_app (i : Nat) {xs : List α} {wk : α → Prop} {apos cpos : Pos} (hΓ : Γ[i]? = some (.ml A xs)) (hN : X.N[i]? = some x) (hv : Vis X.env.scope x) (he : XE X z Γ e A wa) (hw : w → wa fun y => xs.length < sizeLine ∧ Bnd y wk) (hn : ∀ y, XB X z ct (Γ.set i (.ml A (xs ++ [y]))) rest (wk y))
    (hs : starEach (e :: []) X.env = (false, eval e X.env) :: starEach [] X.env := by rfl)
    (hbase : attributeBase (.Name x p) "append" X.env (eval (.Name x p) X.env) = eval (.Name x p) X.env := by rfl)
    (hfew : ((backTo cpos (starEach (e :: []) X.env)).all (fun x => !x.1) && (backToKw cpos (keywordEach [] X.env)).all (fun x => x.1.isSome)
      && decide ((e :: []).length + ([] : List Keyword).length + (if ([] : List Keyword).isEmpty then 0 else 1) < 30)) = true := by rfl)
    (hline : (apos.endLine == cpos.line) = true := by rfl) (hsw : swapsWith (.Call (.Attribute (.Name x p) "append" apos) [e] [] cpos) none pos.line X.env = pure false := by rfl)
    (hd : (x == ("__debug__" : Str)) = false := by decide) (hcd : (x == ("__classdict__" : Str)) = false := by decide) :
    XB X z ct Γ (.Expr (.Call (.Attribute (.Name x p) "append" apos) [e] [] cpos) pos :: rest) w := xb_imp hw (xb_app i hΓ hN hv he hn hs hbase hfew hline hsw hd hcd)
theorem y_setL (i : Nat) {xs : List α} {wk : List α → Prop} (hΓ : Γ[i]? = some (.ml A xs)) (hN : X.N[i]? = some x) (hv : Vis X.env.scope x) (he : XE X z Γ e A wa) (hb : XE X z Γ b tyI wi) (hw : w → wa fun y => wi fun j => ∃ n, ixN xs.length j = some n ∧ Bnd (xs.set n y) wk) (hn : ∀ ys, XB X z ct (Γ.set i (.ml A ys)) rest (wk ys))
    (hs : swapsWithSole [.Subscript (.Name x p) b p2] e pos.line X.env = pure false := by rfl) (hw2 : swappedStores [.Subscript (.Name x p) b p2] e X.env = pure none := by rfl)
    (h1 : (assignEach [.Subscript (.Name x p) b p2] X.env).map (·.2) = [assign (.Subscript (.Name x p) b p2) X.env] := by rfl)
    (ha : ∀ v, assign (.Subscript (.Name x p) b p2) X.env v = (do
      let ov ← holding [v] (eval (.Name x p) X.env)
      let iv ← holding [v, ov] (eval b X.env)
      standAt p2
      holding [v, ov, iv] (setItem ov iv v)
      release [v, ov, iv] []) := by intro _; rfl) (hd : (x == ("__debug__" : Str)) = false := by decide) (hcd : (x == ("__classdict__" : Str)) = false := by decide) :
    XB X z ct Γ (.Assign [.Subscript (.Name x p) b p2] e pos :: rest) w := xb_imp hw (xb_setL i hΓ hN hv he hb hn hs hw2 h1 ha hd hcd)
theorem y_put (i : Nat) {d : List (Str × α)} {wk : List (Str × α) → Prop} (hu : X.A.units + 1 < cLine) (hΓ : Γ[i]? = some (.md A d)) (hN : X.N[i]? = some x) (hv : Vis X.env.scope x) (he : XE X z Γ e A wa) (hb : XE X z Γ b tyS ws) (hw : w → wa fun y => ws fun s => d.length < sizeLine ∧ Bnd (put d s y) wk) (hn : ∀ ys, XB X z ct (Γ.set i (.md A ys)) rest (wk ys))
    (hs : swapsWith e (some (.Subscript (.Name x p) b p2)) pos.line X.env = pure false := by rfl) (hd : (x == ("__debug__" : Str)) = false := by decide) (hcd : (x == ("__classdict__" : Str)) = false := by decide) :
    XB X z ct Γ (.Assign [.Subscript (.Name x p) b p2] e pos :: rest) w := xb_imp hw (xb_put i hu hΓ hN hv he hb hn hs hd hcd)
theorem y_expr {wk : Prop} (he : XE X z Γ e A wa) (hw : w → wa fun _ => wk) (hn : XB X z ct Γ rest wk) (hs : swapsWith e none pos.line X.env = pure false := by rfl) : XB X z ct Γ (.Expr e pos :: rest) w := xb_imp hw (xb_expr he hn hs)
theorem y_ret {wb : (ct.β → Prop) → Prop} (he : XE X z Γ e ct.B wb) (hw : w → wb (ct.r Γ)) : XB X z ct Γ (.Return (some e) pos :: rest) w := xb_imp hw (xb_ret he)
theorem y_if (ΓJ : τ → List Sl) {wj : τ → Prop} {w1 w2 : (τ → Prop) → Prop} (hc : XT X z Γ c wc) (hw : w → Jn wj fun j => wc fun b => if b = true then w1 j else w2 j) (h1 : ∀ j, XB X z { ct with n := J ΓJ j } Γ body (w1 j)) (h2 : ∀ j, XB X z { ct with n := J ΓJ j } Γ orelse (w2 j)) (hr : ∀ s, XB X z ct (ΓJ s) rest (wj s)) :
    XB X z ct Γ (.If c body orelse pos :: rest) w := xb_imp hw (xb_if ΓJ wj hc (h1 wj) (h2 wj) hr)
theorem y_if1 {w1 w2 : Prop} (hc : XT X z Γ c wc) (hw : w → wc fun b => if b = true then w1 else w2) (h1 : XB X z { ct with n := fun _ => False } Γ body w1) (hr : XB X z ct Γ rest w2) : XB X z ct Γ (.If c body [] pos :: rest) w := xb_imp hw (xb_if1 hc h1 hr)
theorem y_if2 {w1 w2 : Prop} (hc : XT X z Γ c wc) (hw : w → wc fun b => if b = true then w1 else w2) (h1 : XB X z { ct with n := fun _ => False } Γ body w1) (h2 : XB X z { ct with n := fun _ => False } Γ orelse w2) : XB X z ct Γ (.If c body orelse pos :: rest) w := xb_imp hw (xb_if2 hc h1 h2)
theorem y_for {is : List Nat} {ΓT : τ → α → List Sl} {wb : (τ → Prop) → τ → α → Prop} {wk : τ → Prop} (ΓL : τ → List Sl) (s0 : τ) (hp : PassesOwn (model X.prog X.w) X.A X.env X.xe) (hc : X.calm = true) (hi : XI X z Γ tg iter A wl) (cv : Cv Γ (ΓL s0))
    (hg : ∀ s, XG X z (ΓL s) tg A is (ΓT s)) (hw : w → wl fun xs => WFor xs s0 wb wk)
    (hb : ∀ (nx : τ → Prop) s x, XB X z { ct with n := J ΓL nx, c := J ΓL nx, b := J ΓL wk } (ΓT s x) body (wb nx s x)) (hr : ∀ s, XB X z ct (ΓL s) rest (wk s))
    (hs : ∀ x, foldedSetIterable iter X.env x = pure x := by intro _; rfl) : XB X z ct Γ (.For tg iter body [] pos :: rest) w := xb_imp hw (xb_for ΓL s0 hp hc hi cv hg hb hr hs)
/-- a loop that breaks -/
theorem y_forB {is : List Nat} {ΓT : τ → α → List Sl} {wb : (τ → Prop) → (τ → Prop) → τ → α → Prop} {wk : τ → Prop} (ΓL : τ → List Sl) (s0 : τ) (hp : PassesOwn (model X.prog X.w) X.A X.env X.xe) (hc : X.calm = true) (hi : XI X z Γ tg iter A wl) (cv : Cv Γ (ΓL s0))
    (hg : ∀ s, XG X z (ΓL s) tg A is (ΓT s)) (hw : w → wl fun xs => Jn wk fun j => WFor xs s0 (wb j) j)
    (hb : ∀ (j nx : τ → Prop) s x, XB X z { ct with n := J ΓL nx, c := J ΓL nx, b := J ΓL j } (ΓT s x) body (wb j nx s x)) (hr : ∀ s, XB X z ct (ΓL s) rest (wk s))
    (hs : ∀ x, foldedSetIterable iter X.env x = pure x := by intro _; rfl) : XB X z ct Γ (.For tg iter body [] pos :: rest) w := xb_imp hw (xb_for ΓL s0 hp hc hi cv hg (hb wk) hr hs)
theorem y_while {wb : (τ → Prop) → (τ → Prop) → τ → Prop} {wk : τ → Prop} {wct : τ → (Bool → Prop) → Prop} (ΓL : τ → List Sl) (s0 : τ) (hp : PassesOwn (model X.prog X.w) X.A X.env X.xe) (cv : Cv Γ (ΓL s0)) (hc : ∀ s, XT X z (ΓL s) c (wct s)) (hw : w → Jn wk fun j => WWhile s0 wct (wb j) j)
    (hb : ∀ (j nx : τ → Prop) s, XB X z { ct with n := J ΓL nx, c := J ΓL nx, b := J ΓL j } (ΓL s) body (wb j nx s)) (hr : ∀ s, XB X z ct (ΓL s) rest (wk s)) :
    XB X z ct Γ (.While c body [] pos :: rest) w := xb_imp hw (xb_while ΓL s0 hp cv hc (hb wk) hr)
theorem y_setMx {g : ρ → α → ρ} {y : ρ} {q : Addr} {wk : ρ → Prop} (i j : Nat) (hΓ : Γ[i]? = some (.mx q R y)) (hN : X.N[i]? = some x) (hv : Vis X.env.scope x) (hr : RowPut R j A g) (he : XE X z Γ e A wa) (hb : XE X z Γ b tyI (fun k => k (j : Int))) (hw : w → wa fun y' => Bnd (g y y') wk) (hn : ∀ y', XB X z ct (Γ.set i (.mx q R y')) rest (wk y'))
    (hs : swapsWithSole [.Subscript (.Name x p) b p2] e pos.line X.env = pure false := by rfl) (hw2 : swappedStores [.Subscript (.Name x p) b p2] e X.env = pure none := by rfl)
    (h1 : (assignEach [.Subscript (.Name x p) b p2] X.env).map (·.2) = [assign (.Subscript (.Name x p) b p2) X.env] := by rfl)
    (ha : ∀ v, assign (.Subscript (.Name x p) b p2) X.env v = (do
      let ov ← holding [v] (eval (.Name x p) X.env)
      let iv ← holding [v, ov] (eval b X.env)
      standAt p2
      holding [v, ov, iv] (setItem ov iv v)
      release [v, ov, iv] []) := by intro _; rfl) (hd : (x == ("__debug__" : Str)) = false := by decide) (hcd : (x == ("__classdict__" : Str)) = false := by decide) :
    XB X z ct Γ (.Assign [.Subscript (.Name x p) b p2] e pos :: rest) w := xb_imp hw (xb_setMx i j hΓ hN hv hr he hb hn hs hw2 h1 ha hd hcd)
theorem y_unp {is : List Nat} {Γ' : α → List Sl} {wk : α → Prop} (he : XE X z Γ e A wa) (hg : XG X z Γ tg A is Γ') (hw : w → wa fun v => Bnd v wk) (hn : ∀ y, XB X z ct (Γ' y) rest (wk y))
    (hs : swapsWithSole [tg] e pos.line X.env = pure false := by rfl) (hw2 : swappedStores [tg] e X.env = pure none := by rfl) (h1 : (assignEach [tg] X.env).map (·.2) = [assign tg X.env] := by rfl) :
    XB X z ct Γ (.Assign [tg] e pos :: rest) w := xb_imp hw (xb_unp he hg hn hs hw2 h1)
theorem y_augAdd (i : Nat) {n : Int} {wk : Int → Prop} (hN : X.N.Nodup) (hi : X.N[i]? = some x) (hx : Loc X.env.scope x) (hΓ : Γ[i]? = some (.fz tyI n)) (he : XE X z Γ e tyI wi) (hw : w → wi fun y => Bnd (n + y) wk) (hn : ∀ y, XB X z ct (Γ.set i (.fz tyI y)) rest (wk y))
    (hf : X.fn x = true ∨ X.env.scope.names.lookup x = some .local := by first | exact .inl rfl | exact .inr rfl) :
    XB X z ct Γ (.AugAssign (.Name x p) .Add e pos :: rest) w := xb_imp hw (xb_augAdd i hN hi hx hΓ he hn hf)
theorem y_fldNew {fs : List (Str × Fz)} {sx : Str} {sp : Pos} {q C : Addr} {wk : α → Prop} (i : Nat) (ns : List Str) (hΓ : Γ[i]? = some (.ob q C fs)) (hN : X.N[i]? = some sx) (hv : Vis X.env.scope sx) (hc : Cls X.K C) (hn : NoAttr X.K C m) (hns : fs.map (·.1) = ns) (hnd : m ∉ ns ∧ ns.length < 1000)
    (he : XE X z Γ e A wa) (hw : w → wa fun v => Bnd v wk) (hr : ∀ y, XB X z ct (Γ.set i (.ob q C (fs ++ [(m, ⟨A, y⟩)]))) rest (wk y)) (hs : swapsWith e (some (.Attribute (.Name sx sp) m p')) pos.line X.env = pure false := by rfl)
    (hd : (sx == ("__debug__" : Str)) = false := by decide) (hcd : (sx == ("__classdict__" : Str)) = false := by decide) :
    XB X z ct Γ (.Assign [.Attribute (.Name sx sp) m p'] e pos :: rest) w := xb_imp hw (xb_fldNew i hΓ hN hv hc hn (by rw [hns]; exact hnd.1) (by rw [← List.length_map (f := fun (z : Str × Fz) => z.1), hns]; exact hnd.2) he hr hs hd hcd)
theorem y_initEnd {q C : Addr} {ns : List Str} {fs : List (Str × Fz)} (y : φ) {k : φ → Prop} (h0 : Γ[0]? = some (.ob q C fs)) (hn : fs.map (·.1) = ns) (hR : RowFs Rf fs y)
    (hct : ct.n = fun Γ => ∃ (fs : List (Str × Fz)) (z : φ), Γ[0]? = some (.ob q C fs) ∧ fs.map (·.1) = ns ∧ (∀ G vs, FV G vs fs → Rf.rep G vs z) ∧ k z) (hw : w → k y) : XB X z ct Γ [] w := xb_imp hw (xb_initEnd y h0 hn hR hct)
theorem y_newMx (i : Nat) {wk : ρ → Prop} (hN : X.N.Nodup) (hi : X.N[i]? = some x) (hx : Loc X.env.scope x) (he : XN X z Γ e R wr) (hw : w → wr wk) (hn : ∀ q y, XB X z ct (Γ.set i (.mx q R y)) rest (wk y))
    (hs : swapsWith e (some (.Name x p')) pos.line X.env = pure false := by rfl) (hf : X.fn x = true ∨ X.env.scope.names.lookup x = some .local := by first | exact .inl rfl | exact .inr rfl) :
    XB X z ct Γ (.Assign [.Name x p'] e pos :: rest) w := xb_imp hw (xb_newMx i hN hi hx he hn hs hf)
theorem y_st (i : Nat) {I : φ → Prop} {q : Addr} {u : φ} {w' : Prop} (hΓ : Γ[i]? = some (.mx q Rf u)) (hw : w → I u ∧ w') (hn : XB X ((zmR Rf I).at_ q) ct (Γ.set i .st) rest w')
    (hcn : ∀ Γ Γ', ct.n Γ → ct.n Γ') (hcb : ∀ Γ Γ', ct.b Γ → ct.b Γ') (hcc : ∀ Γ Γ', ct.c Γ → ct.c Γ') (hcr : ∀ Γ Γ' y, ct.r Γ y → ct.r Γ' y) : XB X Z0 ct Γ rest w := xb_imp hw (xb_st i hΓ hn hcn hcb hcc hcr)
theorem y_retM {I : φ → Prop} {st : Addr} {u' : φ} {k : ct.β → Prop} {wb : (ct.β → Prop) → Prop} (h0 : Γ[0]? = some (.mx st Rf u')) (hct : ct.r = fun Γ z => ∃ u', Γ[0]? = some (.mx st Rf u') ∧ I u' ∧ k z) (he : XE X z Γ e ct.B wb) (hw : w → wb fun y => I u' ∧ k y) :
    XB X z ct Γ (.Return (some e) pos :: rest) w := xb_imp hw (xb_retM h0 hct he)
theorem y_newRg (i : Nat) {wk : α → Prop} (hN : X.N.Nodup) (hi : X.N[i]? = some x) (hx : Loc X.env.scope x) (he : XR X z Γ e A2 wa) (hw : w → wa fun v => Bnd v wk) (hn : ∀ R y, XB X z ct (Γ.set i (.rg R R true 0 A2 y)) rest (wk y))
    (hs : swapsWith e (some (.Name x p')) pos.line X.env = pure false := by rfl) (hf : X.fn x = true ∨ X.env.scope.names.lookup x = some .local := by first | exact .inl rfl | exact .inr rfl) :
    XB X z ct Γ (.Assign [.Name x p'] e pos :: rest) w := xb_imp hw (xb_newRg i hN hi hx he hn hs hf)
theorem y_callRg (i j : Nat) {R : Hp} {n : Bool} {c : Nat} {y : α} {wk : β → Prop} [nl : NoL B] (hj : Γ[j]? = some (.rg R R n c A2 y)) (hij : i ≠ j) (hN : X.N.Nodup) (hi : X.N[i]? = some x) (hx : Loc X.env.scope x) (he : XE X Z0 (noSt (Γ.set j (.fz A2.T y))) e B wb) (hw : w → wb fun v => Bnd v wk)
    (hn : ∀ y', XB X z ct (Γ.set i (.fz B y')) rest (wk y'))
    (hs : swapsWith e (some (.Name x p')) pos.line X.env = pure false := by rfl) (hf : X.fn x = true ∨ X.env.scope.names.lookup x = some .local := by first | exact .inl rfl | exact .inr rfl) :
    XB X z ct Γ (.Assign [.Name x p'] e pos :: rest) w := xb_imp hw (xb_callRg i j hj hij hN hi hx he hn hs hf)
theorem y_mutI (i : Nat) {R R' : Hp} {n : Bool} {c : Nat} {y : α} {wk : Prop} {f : ρ → Int} {j : Nat} (hΓ : Γ[i]? = some (.rg R R' n c A2 y)) (hp : XP X z Γ R R' a (t2M R2) wr) (hr : RowAt2 R2 j (t2N tyI) f) (hb : XE X z Γ b tyI (fun k => k (j : Int))) (he : XE X z Γ e tyI wi) (hw : w → wi fun _ => wr fun _ => wk)
    (hn : ∀ R', XB X z ct (Γ.set i (.rg R R' n c A2 y)) rest wk)
    (hs : swapsWithSole [.Subscript a b p2] e pos.line X.env = pure false := by rfl) (hw2 : swappedStores [.Subscript a b p2] e X.env = pure none := by rfl)
    (h1 : (assignEach [.Subscript a b p2] X.env).map (·.2) = [assign (.Subscript a b p2) X.env] := by rfl)
    (ha : ∀ v, assign (.Subscript a b p2) X.env v = (do
      let ov ← holding [v] (eval a X.env)
      let iv ← holding [v, ov] (eval b X.env)
      standAt p2
      holding [v, ov, iv] (setItem ov iv v)
      release [v, ov, iv] []) := by intro _; rfl) :
    XB X z ct Γ (.Assign [.Subscript a b p2] e pos :: rest) w := xb_imp hw (xb_mutI i hΓ hp hr hb he hn hs hw2 h1 ha)
theorem y_mutS (i : Nat) {R R' : Hp} {n : Bool} {c : Nat} {y : α} {wk : Prop} {f : ρ → Str} {j : Nat} (hΓ : Γ[i]? = some (.rg R R' n c A2 y)) (hp : XP X z Γ R R' a (t2M R2) wr) (hr : RowAt2 R2 j (t2N tyS) f) (hb : XE X z Γ b tyI (fun k => k (j : Int))) (he : XE X z Γ e tyS ws) (hw : w → ws fun _ => wr fun _ => wk)
    (hn : ∀ R', XB X z ct (Γ.set i (.rg R R' n c A2 y)) rest wk)
    (hs : swapsWithSole [.Subscript a b p2] e pos.line X.env = pure false := by rfl) (hw2 : swappedStores [.Subscript a b p2] e X.env = pure none := by rfl)
    (h1 : (assignEach [.Subscript a b p2] X.env).map (·.2) = [assign (.Subscript a b p2) X.env] := by rfl)
    (ha : ∀ v, assign (.Subscript a b p2) X.env v = (do
      let ov ← holding [v] (eval a X.env)
      let iv ← holding [v, ov] (eval b X.env)
      standAt p2
      holding [v, ov, iv] (setItem ov iv v)
      release [v, ov, iv] []) := by intro _; rfl) :
    XB X z ct Γ (.Assign [.Subscript a b p2] e pos :: rest) w := xb_imp hw (xb_mutS i hΓ hp hr hb he hn hs hw2 h1 ha)
theorem y_mutApp (i : Nat) {R R' : Hp} {n : Bool} {c : Nat} {y : α} {wk : Prop} {C2 : Ty2 γ} {wc : (List γ → Prop) → Prop} {apos cpos : Pos} (n' : Bool) (hΓ : Γ[i]? = some (.rg R R' n c A2 y)) (hp : XP X z Γ R R' a (t2L C2) wc) (he : XE X z Γ e B wb)
    (hf : ∀ G v w xs, n' = true → n = true → A2.rep G R v y → (t2L C2).rep G R w xs → (∀ a u, R a = some u → G a = none) → v ≠ w) (hnn : n' = true → n = true) (hw : w → wc fun xs => wb fun _ => xs.length + c < sizeLine ∧ wk) (hn : ∀ R', XB X z ct (Γ.set i (.rg R R' n' (c + 1) A2 y)) rest wk)
    (hs : starEach (e :: []) X.env = (false, eval e X.env) :: starEach [] X.env := by rfl)
    (hbase : attributeBase a "append" X.env (eval a X.env) = eval a X.env := by rfl)
    (hfew : ((backTo cpos (starEach (e :: []) X.env)).all (fun x => !x.1) && (backToKw cpos (keywordEach [] X.env)).all (fun x => x.1.isSome)
      && decide ((e :: []).length + ([] : List Keyword).length + (if ([] : List Keyword).isEmpty then 0 else 1) < 30)) = true := by rfl)
    (hline : (apos.endLine == cpos.line) = true := by rfl) (hsw : swapsWith (.Call (.Attribute a "append" apos) [e] [] cpos) none pos.line X.env = pure false := by rfl) :
    XB X z ct Γ (.Expr (.Call (.Attribute a "append" apos) [e] [] cpos) pos :: rest) w := xb_imp hw (xb_mutApp i n' hΓ hp he hf hnn hn hs hbase hfew hline hsw)
end
end Zk
/-! TL14: comprehensions, as values and as what a local name is set to. -/
namespace Zk
open PySem PySem.Spec L2
section
variable {X : Cx} {z : Zs} {Γ Γ1 : List Sl} {ct : Ct} {a b c e o tg iter elt : Expr} {es ifs : List Expr} {scope : Scope} {rest body orelse : List Stmt} {α β γ τ ρ φ : Type} {A : Ty α} {B : Ty β} {A2 : Ty2 α} {B2 : Ty2 β} {pos p p' p2 : Pos} {x m : Str} {w : Prop}
  {wl : (List α → Prop) → Prop}
/-- a comprehension's reading -/
def RLc (X : Cx) (elt tg iter : Expr) (ifs : List Expr) (scope : Scope) (own : List (Str × Nat)) : TE :=
  tLc (RI X tg iter) (fun v σ H Q => ∀ s H0 C cl fp, RG (X.blk s H0 scope (compEnvC scope cl C X.env) fp) tg v σ H Q)
    (fun σ H Q => ∀ s H0 C cl fp, ∃ t, PTs (X.blk s H0 scope (compEnvC scope cl C X.env) fp) ifs t ∧ t σ H Q)
    (fun σ H Q => ∀ s H0 C cl fp, RE (X.blk s H0 scope (compEnvC scope cl C X.env) fp) elt σ H Q) (own.map (·.2))
theorem pe_rlc {own : List (Str × Nat)} (hc : X.calm = true) (hN : X.N.Nodup) (ok : BlkOk X.N X.env.scope scope own) (hs : ∀ x, foldedSetIterable iter X.env x = pure x) : PE X (.ListComp elt [⟨tg, iter, ifs, 0⟩] scope pos) (RLc X elt tg iter ifs scope own) :=
  pe_lc hc hN ri ok (fun s H C cl fp => ⟨fun pins s' σ' H' v u Q I r h => rg.run pins s' σ' H' v u Q I r (h s H C cl fp)⟩)
    (fun s H C cl fp => ⟨fun pins s' σ' H' Q I h => by obtain ⟨t, h1, h2⟩ := h s H C cl fp; exact h1.run pins s' σ' H' Q I h2⟩)
    (fun s H C cl fp => ⟨fun pins s' σ' H' Q I h => re.run pins s' σ' H' Q I (h s H C cl fp)⟩) hs
theorem ps_rlc {own : List (Str × Nat)} {i : Nat} {y : Str} {py spos : Pos} (hc : X.calm = true) (hN : X.N.Nodup) (ok : BlkOk X.N X.env.scope scope own) (hs : ∀ x, foldedSetIterable iter X.env x = pure x) (hy : X.N[i]? = some y) (hyl : X.env.scope.names.lookup y = some .local)
    (hsw : swapsWith (.ListComp elt [⟨tg, iter, ifs, 0⟩] scope pos) (some (.Name y py)) spos.line X.env = pure true) : PS X (.Assign [.Name y py] (.ListComp elt [⟨tg, iter, ifs, 0⟩] scope pos) spos) (tAsg (RLc X elt tg iter ifs scope own) (gName i)) :=
  ps_setLc hc hN hy hyl hsw ri ok (fun s H C cl fp => ⟨fun pins s' σ' H' v u Q I r h => rg.run pins s' σ' H' v u Q I r (h s H C cl fp)⟩)
    (fun s H C cl fp => ⟨fun pins s' σ' H' Q I h => by obtain ⟨t, h1, h2⟩ := h s H C cl fp; exact h1.run pins s' σ' H' Q I h2⟩)
    (fun s H C cl fp => ⟨fun pins s' σ' H' Q I h => re.run pins s' σ' H' Q I (h s H C cl fp)⟩) hs
/-- e is a comprehension -/
structure IsLc (X : Cx) (e elt tg iter : Expr) (ifs : List Expr) (scope : Scope) (own : List (Str × Nat)) (pos : Pos) : Prop where
  e : e = .ListComp elt [⟨tg, iter, ifs, 0⟩] scope pos
  hc : X.calm = true
  hN : X.N.Nodup
  ok : BlkOk X.N X.env.scope scope own
  hs : ∀ x, foldedSetIterable iter X.env x = pure x
def XFC (X : Cx) (z : Zs) (Γ : List Sl) (e : Expr) {β : Type} (B : Ty β) (w : (List β → Prop) → Prop) : Prop :=
  ∃ (elt tg iter : Expr) (ifs : List Expr) (scope : Scope) (own : List (Str × Nat)) (pos : Pos), IsLc X e elt tg iter ifs scope own pos ∧
    ∀ (G0 H0 : Hp) (σ : L2.St) (G H : Hp) (k : List β → Prop) (Q : VK), Ev z G0 H0 G H σ Γ → w k →
      (∀ G' H' q vs xs, Wd z G' H' → Stp z G H G' H' → H q = none → G' q = none → H' q = some (.lst vs) → Paired (B.rep G') vs xs → k xs → Q (.ref q) H') → RLc X elt tg iter ifs scope own σ H Q
def XRC (X : Cx) (z : Zs) (Γ : List Sl) (e : Expr) {β : Type} (B2 : Ty2 β) (w : (β → Prop) → Prop) : Prop :=
  ∃ (elt tg iter : Expr) (ifs : List Expr) (scope : Scope) (own : List (Str × Nat)) (pos : Pos), IsLc X e elt tg iter ifs scope own pos ∧
    ∀ (G0 H0 : Hp) (σ : L2.St) (G H : Hp) (k : β → Prop) (Q : VK), Ev z G0 H0 G H σ Γ → w k →
      (∀ G' H' R v y, Wd z G' H' → Stp z G H G' H' → Nw R H G' H' → B2.rep G' R v y → k y → Q v H') → RLc X elt tg iter ifs scope own σ H Q
theorem xf_c {w : (List β → Prop) → Prop} (h : XFC X z Γ e B w) : XF X z Γ e B w := fun G0 H0 σ G H k Q E hw hk => by
  obtain ⟨elt, tg, iter, ifs, scope, own, pos, i, h⟩ := h
  have ie := i.e
  subst ie
  exact ⟨_, pe_rlc i.hc i.hN i.ok i.hs, h G0 H0 σ G H k Q E hw hk⟩
theorem xr_c {w : (β → Prop) → Prop} (h : XRC X z Γ e B2 w) : XR X z Γ e B2 w := fun G0 H0 σ G H k Q E hw hk => by
  obtain ⟨elt, tg, iter, ifs, scope, own, pos, i, h⟩ := h
  have ie := i.e
  subst ie
  exact ⟨_, pe_rlc i.hc i.hN i.ok i.hs, h G0 H0 σ G H k Q E hw hk⟩
theorem xfc_imp {w w' : (List β → Prop) → Prop} (h : XFC X z Γ e B w) (f : ∀ k, w' k → w k) : XFC X z Γ e B w' := by
  obtain ⟨elt, tg, iter, ifs, scope, own, pos, i, h⟩ := h
  exact ⟨elt, tg, iter, ifs, scope, own, pos, i, fun G0 H0 σ G H k Q E hw hk => h G0 H0 σ G H k Q E (f k hw) hk⟩
theorem xrc_imp {w w' : (β → Prop) → Prop} (h : XRC X z Γ e B2 w) (f : ∀ k, w' k → w k) : XRC X z Γ e B2 w' := by
  obtain ⟨elt, tg, iter, ifs, scope, own, pos, i, h⟩ := h
  exact ⟨elt, tg, iter, ifs, scope, own, pos, i, fun G0 H0 σ G H k Q E hw hk => h G0 H0 σ G H k Q E (f k hw) hk⟩
/-- name = [..], the name a local of its own -/
theorem y_setC (i : Nat) {wl : (List β → Prop) → Prop} {wk : List β → Prop} (hi : X.N[i]? = some x) (hx : X.env.scope.names.lookup x = some .local) (he : XFC X z Γ e B wl) (hw : w → wl fun v => Bnd v wk) (hn : ∀ y, XB X z ct (Γ.set i (.ml B y)) rest (wk y))
    (hs : swapsWith e (some (.Name x p')) pos.line X.env = pure true := by rfl) : XB X z ct Γ (.Assign [.Name x p'] e pos :: rest) w := by
  obtain ⟨elt, tg, iter, ifs, scope, own, lpos, q, h⟩ := he
  have ie := q.e
  subst ie
  exact fun G0 H0 D σ G H M E hw0 => ⟨_, pss_cons (ps_rlc q.hc q.hN q.ok q.hs hi hx hs) rs, h G0 H0 σ G H wk (fun v H' => RS X rest D (σ.set i (some v)) H') E (hw hw0) fun G1 H1 q vs xs W1 S1 nq gq hq r h1 => hn xs G0 H0 D _ G1 H1 M (E.takeOwn W1 S1 i nq (SlOk.ml_of E nq gq hq r)) h1⟩
theorem y_newRgC (i : Nat) {wa : (α → Prop) → Prop} {wk : α → Prop} (hi : X.N[i]? = some x) (hx : X.env.scope.names.lookup x = some .local) (he : XRC X z Γ e A2 wa) (hw : w → wa fun v => Bnd v wk) (hn : ∀ R y, XB X z ct (Γ.set i (.rg R R true 0 A2 y)) rest (wk y))
    (hs : swapsWith e (some (.Name x p')) pos.line X.env = pure true := by rfl) : XB X z ct Γ (.Assign [.Name x p'] e pos :: rest) w := by
  obtain ⟨elt, tg, iter, ifs, scope, own, lpos, q, h⟩ := he
  have ie := q.e
  subst ie
  exact fun G0 H0 D σ G H M E hw0 => ⟨_, pss_cons (ps_rlc q.hc q.hN q.ok q.hs hi hx hs) rs, h G0 H0 σ G H wk (fun v H' => RS X rest D (σ.set i (some v)) H') E (hw hw0) fun G1 H1 R v y W1 S1 n1 r h1 => hn R y G0 H0 D _ G1 H1 M ((E.step W1 S1).setOwn i (S := .rg R R true 0 A2 y) (o := some v)
    ⟨v, rfl, r, Skel.refl R n1.l, fun a u ha => ⟨n1.g a u ha, E.znew (n1.nw a u ha), E.h0new (n1.nw a u ha), n1.h a u ha⟩, fun _ => FixL.refl R v⟩ fun j T o' l hj h1 h2 h3 h4 => by
      have h3 : R l ≠ none := h3
      obtain ⟨u, o⟩ := (E.sl j T _ h1 h2).tracked h4
      cases e : R l with
      | none => exact h3 e
      | some w =>
        have := n1.nw l w e
        rw [o.h] at this
        cases this) h1⟩
variable {is : List Nat} {ΓT : α → List Sl} {wt : α → (Bool → Prop) → Prop} {we : α → (β → Prop) → Prop}
theorem xc_lc (own : List (Str × Nat)) (hc : X.calm = true) (hN : X.N.Nodup) (hi : XI X z Γ tg iter A wl) (ok : blkC X.N X.env.scope scope own = true)
    (hg : ∀ (s : Shared) (H : Hp) (C : Addr) (cl : List (Str × Addr)) (fp : List Addr), XG (X.blk s H scope (compEnvC scope cl C X.env) fp) z (wipeG Γ (own.map (·.2))) tg A is ΓT) (his : ∀ i ∈ is, i ∈ own.map (·.2))
    (ht : ∀ (s : Shared) (H : Hp) (C : Addr) (cl : List (Str × Addr)) (fp : List Addr) (x : α), XTs (X.blk s H scope (compEnvC scope cl C X.env) fp) z (ΓT x) ifs (wt x))
    (he : ∀ (s : Shared) (H : Hp) (C : Addr) (cl : List (Str × Addr)) (fp : List Addr) (x : α), XE (X.blk s H scope (compEnvC scope cl C X.env) fp) z (ΓT x) elt B (we x)) (hs : ∀ x, foldedSetIterable iter X.env x = pure x := by intro _; rfl) :
    XFC X z Γ (.ListComp elt [⟨tg, iter, ifs, 0⟩] scope pos) B (fun k => wl fun xs => WLc xs wt we k) := ⟨_, _, _, _, _, own, _, ⟨rfl, hc, hN, blkOk_by ok, hs⟩, fun G0 H0 σ G H k Q E hw hk => by
  refine hi G0 H0 σ G H _ _ E hw fun G1 H1 J' xs W1 S1 ok ⟨hsz, I, i0, it, ie⟩ => fun q nq => ?_
  have nq0 : H q = none := by
    cases e : H q with
    | none => rfl
    | some o =>
      obtain ⟨o', e'⟩ := S1.t q o e
      rw [nq] at e'
      cases e'
  have E1 := E.step W1 S1
  refine ⟨fun i m H' => ∃ G' vs acc, i ≤ xs.length ∧ m = xs.length - i ∧ Wd z G' H' ∧ Stp z G1 H1 G' H' ∧ G' q = none ∧ H' q = some (.lst vs) ∧ Paired (B.rep G') vs acc ∧ acc.length ≤ i ∧ I i acc,
    ⟨_, G1, [], [], Nat.zero_le _, rfl, W1.own nq, Stp.own nq, W1.gh.free nq, upd_same, .nil, Nat.le_refl _, i0⟩, ?_⟩
  rintro i m H' ⟨G', vs, acc, hi, rfl, W', S', gq, hq, r, hla, hI⟩
  have E' := E1.step W' S'
  by_cases hlt : i < xs.length
  · refine .inr ⟨ok.go i xs[i] G' H' W' S'.g (by simp [hlt]), fun H3 => ∃ G3 vs acc, Wd z G3 H3 ∧ Stp z G1 H1 G3 H3 ∧ G3 q = none ∧ H3 q = some (.lst vs) ∧ Paired (B.rep G3) vs acc ∧ acc.length ≤ i + 1 ∧ I (i + 1) acc,
      fun H3 ⟨G3, vs3, acc3, W3, S3, g3, h3, r3, l3, q3⟩ => ⟨xs.length - (i + 1), by omega, G3, vs3, acc3, hlt, rfl, W3, S3, g3, h3, r3, l3, q3⟩, fun v H3 y => ?_⟩
    obtain ⟨G3, W3, S3, r3⟩ := ok.yld i xs[i] G' H' v H3 W' S'.g (by simp [hlt]) y
    have E3 := (E'.step W3 S3).wipe (own.map (·.2))
    intro s Hb C cl fp
    refine hg s Hb C cl fp G0 H0 _ G3 H3 v xs[i] _ E3 r3 fun σ4 E4 hσ => ⟨(wipe_eq his hσ).trans wipe_wipe, ?_⟩
    intro s Hb C cl fp
    refine ht s Hb C cl fp xs[i] G0 H0 σ4 G3 H3 _ _ E4 (it i xs[i] acc (by simp [hlt]) hI) fun G5 H5 b W5 S5 g5 => ?_
    have S35 := S3.trans S5
    have gq5 : G5 q = none := S35.n q _ hq gq
    have hq5 : H5 q = some (.lst vs) := S35.h q _ (E1.znew nq) hq
    cases b with
    | false =>
      exact ⟨G5, vs, acc, W5, S'.trans S35, gq5, hq5, Paired.mono (fun _ _ => B.mono S35.g) r, Nat.le_succ_of_le hla, g5⟩
    | true =>
      intro s Hb C cl fp
      refine he s Hb C cl fp xs[i] G0 H0 σ4 G5 H5 _ _ (E4.step W5 S5) g5 fun G6 H6 u y W6 S6 r6 g6 => ?_
      have S36 := S35.trans S6
      have gq6 : G6 q = none := S36.n q _ hq gq
      have hq6 : H6 q = some (.lst vs) := S36.h q _ (E1.znew nq) hq
      have st : Stp z G1 H1 G6 (upd H6 q (.lst (vs ++ [u]))) := by
        have S16 := S'.trans S36
        have ne : ∀ {a : Addr} {w : HO}, H1 a = some w → a ≠ q := fun h => ne_of_none h nq
        exact ⟨S16.g, fun a w hz h => by rw [upd_ne (ne h)]; exact S16.h a w hz h, S16.n, fun a w h => by
          obtain ⟨o', e⟩ := S16.t a w h
          exact ⟨o', by rw [upd_ne (ne h)]; exact e⟩⟩
      exact ⟨vs, hq6, by rw [r.length]; omega, G6, vs ++ [u], acc ++ [y], W6.set gq6 (E1.znew nq), st, gq6, upd_same, Paired.app (Paired.mono (fun _ _ => B.mono S36.g) r) (.cons r6 .nil), by rw [List.length_append]; show acc.length + 1 ≤ _; omega, g6⟩
  · have e : i = xs.length := by omega
    subst e
    exact .inl ⟨ok.stop G' H' W' S'.g, hk G' H' q vs acc W' (S1.trans S') nq0 gq hq r (ie acc hI)⟩⟩
theorem xc_rlc (own : List (Str × Nat)) (hc : X.calm = true) (hN : X.N.Nodup) (hi : XI X z Γ tg iter A wl) (ok : blkC X.N X.env.scope scope own = true)
    (hg : ∀ (s : Shared) (H : Hp) (C : Addr) (cl : List (Str × Addr)) (fp : List Addr), XG (X.blk s H scope (compEnvC scope cl C X.env) fp) z (wipeG Γ (own.map (·.2))) tg A is ΓT) (his : ∀ i ∈ is, i ∈ own.map (·.2))
    (he : ∀ (s : Shared) (H : Hp) (C : Addr) (cl : List (Str × Addr)) (fp : List Addr) (x : α), XR (X.blk s H scope (compEnvC scope cl C X.env) fp) z (ΓT x) elt B2 (we x)) (hs : ∀ x, foldedSetIterable iter X.env x = pure x := by intro _; rfl) :
    XRC X z Γ (.ListComp elt [⟨tg, iter, [], 0⟩] scope pos) (t2L B2) (fun k => wl fun xs => WLr xs we k) := ⟨_, _, _, _, _, own, _, ⟨rfl, hc, hN, blkOk_by ok, hs⟩, fun G0 H0 σ G H k Q E hw hk => by
  refine hi G0 H0 σ G H _ _ E hw fun G1 H1 J' xs W1 S1 ok ⟨hsz, I, i0, it, ie⟩ => fun q nq => ?_
  have nq0 : H q = none := stp_none S1 nq
  have E1 := E.step W1 S1
  have zq : z.at_ ≠ some q := E1.znew nq
  refine ⟨fun i m H' => ∃ G' R vs acc, i ≤ xs.length ∧ m = xs.length - i ∧ Wd z G' H' ∧ Stp z G1 H1 G' H' ∧ G' q = none ∧ H' q = some (.lst vs) ∧ R q = none ∧ Nw R H G' H' ∧ Paired (B2.rep G' R) vs acc ∧ acc.length ≤ i ∧ I i acc,
    ⟨_, G1, noHp, [], [], Nat.zero_le _, rfl, W1.own nq, Stp.own nq, W1.gh.free nq, upd_same, rfl, .nil, .nil, Nat.le_refl _, i0⟩, ?_⟩
  rintro i m H' ⟨G', R, vs, acc, hi, rfl, W', S', gq, hq, rq, nw, r, hla, hI⟩
  have E' := E1.step W' S'
  by_cases hlt : i < xs.length
  · refine .inr ⟨ok.go i xs[i] G' H' W' S'.g (by simp [hlt]), fun H3 => ∃ G3 R vs acc, Wd z G3 H3 ∧ Stp z G1 H1 G3 H3 ∧ G3 q = none ∧ H3 q = some (.lst vs) ∧ R q = none ∧ Nw R H G3 H3 ∧ Paired (B2.rep G3 R) vs acc ∧ acc.length ≤ i + 1 ∧ I (i + 1) acc,
      fun H3 ⟨G3, R3, vs3, acc3, W3, S3, g3, h3, rq3, nw3, r3, l3, q3⟩ => ⟨xs.length - (i + 1), by omega, G3, R3, vs3, acc3, hlt, rfl, W3, S3, g3, h3, rq3, nw3, r3, l3, q3⟩, fun v H3 y => ?_⟩
    obtain ⟨G3, W3, S3, r3⟩ := ok.yld i xs[i] G' H' v H3 W' S'.g (by simp [hlt]) y
    have E3 := (E'.step W3 S3).wipe (own.map (·.2))
    intro s Hb C cl fp
    refine hg s Hb C cl fp G0 H0 _ G3 H3 v xs[i] _ E3 r3 fun σ4 E4 hσ => ⟨(wipe_eq his hσ).trans wipe_wipe, ?_⟩
    intro s Hb C cl fp
    refine ⟨_, pts_nil, ?_⟩
    show ∀ s H0 C cl fp, _
    intro s Hb C cl fp
    refine he s Hb C cl fp xs[i] G0 H0 σ4 G3 H3 _ _ E4 (it i xs[i] acc (by simp [hlt]) hI) fun G6 H6 R6 u y W6 S6 n6 r6 g6 => ?_
    have S36 := S3.trans S6
    have gq6 : G6 q = none := S36.n q _ hq gq
    have hq6 : H6 q = some (.lst vs) := S36.h q _ zq hq
    have hq3 : H3 q = some (.lst vs) := S3.h q _ zq hq
    have n3 : Nw R H G3 H3 := ⟨nw.nw, fun a w e => S3.n a w (nw.h a w e) (nw.g a w e), fun a w e => S3.h a w (fun es => E.stH a es (nw.nw a w e)) (nw.h a w e), nw.l⟩
    obtain ⟨n7, s1, s2⟩ := Nw.join W3 ((S1.trans S').trans S3) S6 n3 E.stH n6
    have r6q : R6 q = none := by
      cases e : R6 q with
      | none => rfl
      | some w =>
        have := n6.nw q w e
        rw [hq3] at this
        cases this
    have jq : jn R R6 q = none := by unfold jn; rw [r6q]; exact rq
    have st : Stp z G1 H1 G6 (upd H6 q (.lst (vs ++ [u]))) := by
      have S16 := S'.trans S36
      have ne : ∀ {a : Addr} {w : HO}, H1 a = some w → a ≠ q := fun h => ne_of_none h nq
      exact ⟨S16.g, fun a w hz h => by rw [upd_ne (ne h)]; exact S16.h a w hz h, S16.n, fun a w h => by
        obtain ⟨o', e⟩ := S16.t a w h
        exact ⟨o', by rw [upd_ne (ne h)]; exact e⟩⟩
    have n8 : Nw (jn R R6) H G6 (upd H6 q (.lst (vs ++ [u]))) := ⟨n7.nw, n7.g, fun a w e => by
      have ne : a ≠ q := fun z => by rw [z, jq] at e; cases e
      rw [upd_ne ne]
      exact n7.h a w e, n7.l⟩
    exact ⟨vs, hq6, by rw [r.length]; omega, G6, _, vs ++ [u], acc ++ [y], W6.set gq6 zq, st, gq6, upd_same, jq, n8, Paired.app (Paired.mono (fun _ _ => B2.mono S36.g s1) r) (.cons (B2.mono (Same.refl _) s2 r6) .nil), by rw [List.length_append]; show acc.length + 1 ≤ _; omega, g6⟩
  · have e : i = xs.length := by omega
    subst e
    refine .inl ⟨ok.stop G' H' W' S'.g, ?_⟩
    have n9 : Nw (upd R q (.lst vs)) H G' H' := by
      have at_ : ∀ p u, upd R q (.lst vs) p = some u → (p = q ∧ u = .lst vs) ∨ (p ≠ q ∧ R p = some u) := fun p u e => by
        by_cases h : p = q
        · subst h; rw [upd_same] at e; exact .inl ⟨rfl, (Option.some.inj e).symm⟩
        · rw [upd_ne h] at e; exact .inr ⟨h, e⟩
      refine ⟨fun p u e => ?_, fun p u e => ?_, fun p u e => ?_, fun p u e => (at_ p u e).elim (fun h => ⟨vs, h.2⟩) fun h => nw.l p u h.2⟩
      · rcases at_ p u e with ⟨e1, _⟩ | ⟨_, e⟩
        · rw [e1]; exact nq0
        · exact nw.nw p u e
      · rcases at_ p u e with ⟨e1, _⟩ | ⟨_, e⟩
        · rw [e1]; exact gq
        · exact nw.g p u e
      · rcases at_ p u e with ⟨e1, e2⟩ | ⟨h, e⟩
        · rw [e1, e2]; exact hq
        · exact nw.h p u e
    exact hk G' H' _ _ acc W' (S1.trans S') n9 ⟨q, vs, rfl, upd_same, Paired.mono (fun _ _ => B2.mono (Same.refl _) (same_new rq)) r⟩ (ie acc hI)⟩
theorem xi_mono (hi : XI X z Γ tg iter A wl) : XI X z Γ tg iter A (fun k1 => ∃ k0, wl k0 ∧ ∀ xs, k0 xs → k1 xs) := fun G0 H0 σ G H k R E ⟨k0, h, f⟩ hk => hi G0 H0 σ G H k0 R E h fun G' H' J xs W S ok q => hk G' H' J xs W S ok (f xs q)
theorem xc_lcm {f : α → β} (own : List (Str × Nat)) (hc : X.calm = true) (hN : X.N.Nodup) (hi : XI X z Γ tg iter A wl) (ok : blkC X.N X.env.scope scope own = true)
    (hg : ∀ (s : Shared) (H : Hp) (C : Addr) (cl : List (Str × Addr)) (fp : List Addr), XG (X.blk s H scope (compEnvC scope cl C X.env) fp) z (wipeG Γ (own.map (·.2))) tg A is ΓT) (his : ∀ i ∈ is, i ∈ own.map (·.2))
    (he : ∀ (s : Shared) (H : Hp) (C : Addr) (cl : List (Str × Addr)) (fp : List Addr) (x : α), XE (X.blk s H scope (compEnvC scope cl C X.env) fp) z (ΓT x) elt B (we x)) (h2 : we = fun x kk => kk (f x)) (hs : ∀ x, foldedSetIterable iter X.env x = pure x := by intro _; rfl) :
    XFC X z Γ (.ListComp elt [⟨tg, iter, [], 0⟩] scope pos) B (fun k => wl fun xs => xs.length < sizeLine ∧ k (xs.map f)) := by
  subst h2
  exact xfc_imp (xc_lc own hc hN (xi_mono hi) ok hg his (fun _ _ _ _ _ _ => xts_nil) he hs) fun k h => ⟨_, h, fun xs q => WLc_map q.1 q.2⟩
theorem xc_lcf {f : α → β} {g : α → Bool} (own : List (Str × Nat)) (hc : X.calm = true) (hN : X.N.Nodup) (hi : XI X z Γ tg iter A wl) (ok : blkC X.N X.env.scope scope own = true)
    (hg : ∀ (s : Shared) (H : Hp) (C : Addr) (cl : List (Str × Addr)) (fp : List Addr), XG (X.blk s H scope (compEnvC scope cl C X.env) fp) z (wipeG Γ (own.map (·.2))) tg A is ΓT) (his : ∀ i ∈ is, i ∈ own.map (·.2))
    (ht : ∀ (s : Shared) (H : Hp) (C : Addr) (cl : List (Str × Addr)) (fp : List Addr) (x : α), XTs (X.blk s H scope (compEnvC scope cl C X.env) fp) z (ΓT x) ifs (wt x))
    (he : ∀ (s : Shared) (H : Hp) (C : Addr) (cl : List (Str × Addr)) (fp : List Addr) (x : α), XE (X.blk s H scope (compEnvC scope cl C X.env) fp) z (ΓT x) elt B (we x)) (h1 : wt = fun x kk => kk (g x)) (h2 : we = fun x kk => kk (f x)) (hs : ∀ x, foldedSetIterable iter X.env x = pure x := by intro _; rfl) :
    XFC X z Γ (.ListComp elt [⟨tg, iter, ifs, 0⟩] scope pos) B (fun k => wl fun xs => xs.length < sizeLine ∧ k ((xs.filter g).map f)) := by
  subst h1 h2
  exact xfc_imp (xc_lc own hc hN (xi_mono hi) ok hg his ht he hs) fun k h => ⟨_, h, fun xs q => WLc_filter q.1 q.2⟩
theorem xc_rlcm {f : α → β} (own : List (Str × Nat)) (hc : X.calm = true) (hN : X.N.Nodup) (hi : XI X z Γ tg iter A wl) (ok : blkC X.N X.env.scope scope own = true)
    (hg : ∀ (s : Shared) (H : Hp) (C : Addr) (cl : List (Str × Addr)) (fp : List Addr), XG (X.blk s H scope (compEnvC scope cl C X.env) fp) z (wipeG Γ (own.map (·.2))) tg A is ΓT) (his : ∀ i ∈ is, i ∈ own.map (·.2))
    (he : ∀ (s : Shared) (H : Hp) (C : Addr) (cl : List (Str × Addr)) (fp : List Addr) (x : α), XR (X.blk s H scope (compEnvC scope cl C X.env) fp) z (ΓT x) elt B2 (we x)) (h2 : we = fun x kk => kk (f x)) (hs : ∀ x, foldedSetIterable iter X.env x = pure x := by intro _; rfl) :
    XRC X z Γ (.ListComp elt [⟨tg, iter, [], 0⟩] scope pos) (t2L B2) (fun k => wl fun xs => xs.length < sizeLine ∧ k (xs.map f)) := by
  subst h2
  exact xrc_imp (xc_rlc own hc hN (xi_mono hi) ok hg his he hs) fun k h => ⟨_, h, fun xs q => WLr_map q.1 q.2⟩
end
end Zk
/-! TLP: plain tools for the printed readings. -/
namespace Zk
open PySem PySem.Spec L2
theorem Jn_by {τ : Type} {wj : τ → Prop} {g : (τ → Prop) → Prop} (P : τ → Prop) (h1 : ∀ s, P s → wj s) (h2 : ∀ j, (∀ s, P s → j s) → g j) : Jn wj g := h2 wj h1
theorem lg_le {n k : Nat} (h : n < 2 ^ k) : n.log2 ≤ k := by
  by_cases h0 : n = 0
  · subst h0; simp
  · exact Nat.le_of_lt ((Nat.log2_lt h0).mpr h)
theorem cmul_of {i j : Int} (a b : Nat) (hi : i.natAbs < 2 ^ a) (hj : j.natAbs < 2 ^ b) (h : a + b < 1000000) : CMulW i j := by
  have h1 := lg_le hi
  have h2 := lg_le hj
  show i.natAbs.log2 + j.natAbs.log2 < 1000000
  omega
/-- a walk, by an invariant -/
theorem WFor_by {α τ : Type} {xs : List α} {s0 : τ} {wb : (τ → Prop) → τ → α → Prop} {wk : τ → Prop} (I : Nat → τ → Prop) (h0 : I 0 s0) (h1 : ∀ i x s, xs[i]? = some x → I i s → wb (I (i + 1)) s x) (h2 : ∀ s, I xs.length s → wk s) : WFor xs s0 wb wk := ⟨I, h0, h1, h2⟩
end Zk
/-! TL15: more of dicts. -/
namespace Zk
section
open PySem PySem.Spec PyProof.Rows L2
def tSumVals (td : TE) : TE := fun σ H Q => td σ H fun x H1 => ∃ (a : Addr) (kvs : List (Key × V)) (is : List Int), x = V.ref a ∧ Rd H1 a (.dK kvs) ∧ kvs.map (·.2) = is.map V.int ∧ Q (.int is.sum) H1
theorem pe_sumVals {X : Cx} {o : Expr} {p pos apos mpos : Pos} {td : TE} (hc : X.calm = true) (hg : Gl X "sum") (hm : X.mg "sum" = none) (hd : PE X o td) (hbase : attributeBase o "values" X.env (eval o X.env) = eval o X.env := by rfl) (hline : (apos.endLine == mpos.line) = true := by rfl)
    (hse : starEach [Expr.Call (.Attribute o "values" apos) [] [] mpos] X.env = [(false, eval (Expr.Call (.Attribute o "values" apos) [] [] mpos) X.env)] := by rfl) :
    PE X (.Call (.Name "sum" p) [.Call (.Attribute o "values" apos) [] [] mpos] [] pos) (tSumVals td) := by
  refine ⟨fun pins s σ H Q I h => ?_⟩
  refine wpAny_Call_Name_kw (ld_blt I hg hm (u := .builtin "sum") (by first | rfl | decide +kernel) ?_ (by first | decide +kernel | decide) (by first | decide +kernel | decide))
  rw [hse]
  refine PySem.callWith_builtin1 (wpAny_Call_method0_late hbase hline (thn (hd.run pins s σ H _ I h) fun v s1 ⟨x, H1, I1, r1, a, kvs, is, ex, ha, hv, q⟩ => ?_))
  subst ex
  obtain rfl : v = Value.ref a := r1
  obtain ⟨_, hsys, vs, rel, dof⟩ := dk_rd I1.hok ha
  obtain ⟨ep, dat⟩ := dof.dictAt
  have dat' := dat
  obtain ⟨ob, es, ho, ex, hdat, hko, hpr, hnd⟩ := dat'
  refine ⟨"dict", "dict.values", F.plainAttrs_dict, F.slot_dict_values, F.type_dict_values, ⟨ob, ho, ex.1⟩, fun b e => ?_, Calls.callWith_builtin rfl (PySem.evalArgs_none ?_)⟩
  · cases e
    exact ⟨ob, ho, ex.2.1⟩
  refine call_meetsIn F.slot_dict_values ⟨ob, ho, ex.1⟩ F.entry_dict_values (F.args_dict_values_1 _) (meets_dict_values (mixKind X.prog X.w) a hsys) ⟨⟨vs, dof⟩, ?_⟩
  have k1 : ∀ b u, s1.heap.get? b = some u → (s1.heap.push { cls := .type "dict_values", data := .fields #[.ref a] }).get? b = some u := fun b u e => Heap.get?_push_of_some _ e
  have dat1 : (s1.heap.push { cls := .type "dict_values", data := .fields #[.ref a] }).DictAt (mixKind X.prog X.w) a vs ep := dat.keep k1
  have hlv : vs.length = is.length := by
    have e1 := congrArg List.length hv
    rw [List.length_map, List.length_map] at e1
    rw [← e1]
    exact (KV.length rel).symm
  have hval : ∀ (i : Nat) (v : Value), (∃ k, vs[i]? = some (k, v)) → ∃ t, v = Value.int (is.getD i 0) t := fun i v ⟨k, hk⟩ => by
    obtain ⟨x, h1, h2⟩ := KV.at' rel hk
    have e1 : (kvs.map (·.2))[i]? = some x := by rw [List.getElem?_map, h1] <;> rfl
    rw [hv, List.getElem?_map] at e1
    obtain ⟨j, hj, e2⟩ := Option.map_eq_some_iff.mp e1
    subst e2
    obtain ⟨t, e3⟩ := h2
    refine ⟨t, ?_⟩
    rw [e3, List.getD_eq_getElem?_getD, hj] <;> rfl
  have hlt : a < s1.heap.objs.size := Heap.lt_size ho
  have hsz : (s1.heap.push { cls := .type "dict_values", data := .fields #[.ref a] }).objs.size = s1.heap.objs.size + 1 := Heap.size_push _ _
  have W := Walks.dictValues (knd := mixKind X.prog X.w) (A := X.A.in1) (I.ok.hd hc) (s1.heap.push { cls := .type "dict_values", data := .fields #[.ref a] }).objs.size a (by rw [hsz]; exact Nat.ne_of_lt (Nat.lt_succ_of_lt hlt)) vs ep
  refine call_sum_walkAnyS (wpAny_pyIter_values (v := s1.heap.objs.size) (d := a) ⟨_, Heap.get?_push_size _ rfl, rfl, rfl⟩ dat1 ?_)
  refine ⟨_, _, _, _, vs.length, _, _, fun i => is.getD i 0, rfl, W.toS,
    ⟨⟨_, Heap.get?_push_size _ rfl, rfl, rfl⟩, dat1.keep fun b u e => Heap.get?_push_of_some _ e⟩, fun b hb => ?_, hval, fun s' t' hm => ?_⟩
  · show b < ((s1.heap.push _).push _).objs.size
    rw [Heap.size_push, Heap.size_push]
    rw [hsz] at hb
    rcases List.mem_cons.mp hb with e | hb
    · rw [e]
      exact Nat.lt_succ_self _
    · have e : b = a := List.mem_singleton.mp hb
      rw [e]
      exact Nat.lt_succ_of_lt (Nat.lt_succ_of_lt hlt)
  · have e : preSum (fun i => is.getD i 0) vs.length = is.sum := by rw [PyProof.Rows.preSum_getD, hlv, List.take_length]
    rw [e, Moved.eq_with hm]
    refine ⟨.int _, H1, I1.kept (t' := s'.toks) fun b u e => hm.heap b u (fun hmem => ?_) (Heap.get?_push_of_some _ (k1 b u e)), ⟨t', rfl⟩, q⟩
    have e1 : b = (s1.heap.push { cls := .type "dict_values", data := .fields #[.ref a] }).objs.size := List.mem_singleton.mp hmem
    have e2 := Heap.lt_size e
    rw [hsz] at e1
    rw [e1] at e2
    exact absurd e2 (Nat.not_lt.mpr (Nat.le_succ _))
end
section
open PySem PySem.Spec L2
variable {X : Cx} {z : Zs} {Γ Γ1 : List Sl} {ct : Ct} {a b c e o tg iter : Expr} {es : List Expr} {rest body orelse : List Stmt} {α β γ τ ρ φ : Type} {A : Ty α} {B : Ty β} {R : Row ρ} {Rf : Row φ} {pos p p' p2 apos mpos : Pos} {x y m : Str} {w : Prop}
  {wa : (α → Prop) → Prop} {wb : (β → Prop) → Prop} {wd : (List (Str × α) → Prop) → Prop} {wi : (Int → Prop) → Prop} {wo : (φ → Prop) → Prop}
/-! ### dicts -/
def keys {α : Type} (d : List (Str × α)) : List Str := d.map (·.1)
theorem kv_vals {G : Hp} : ∀ {ks : List (Key × V)} {d : List (Str × Int)}, Paired (kvR tyI G) ks d → ks.map (·.2) = (d.map (·.2)).map V.int
  | _, _, .nil => rfl
  | _, _, .cons (a := k) (b := e) r t => by rw [List.map_cons, List.map_cons, List.map_cons, kv_vals t, show k.2 = V.int e.2 from r.2]
theorem kv_keys {G : Hp} : ∀ {ks : List (Key × V)} {d : List (Str × α)}, Paired (kvR A G) ks d → ks.map (·.1) = (keys d).map Sum.inr
  | _, _, .nil => rfl
  | _, _, .cons (a := k) (b := e) r t => by
    show k.1 :: _ = Sum.inr e.1 :: _
    rw [r.1.1]
    exact congrArg _ (kv_keys t)
theorem kv_sok {G : Hp} : ∀ {ks : List (Key × V)} {d : List (Str × α)}, Paired (kvR A G) ks d → ∀ x ∈ keys d, sOk x = true
  | _, _, .nil => fun _ h => by cases h
  | _, _, .cons (b := e) r t => fun x h => (List.mem_cons.mp (show x ∈ e.1 :: keys _ from h)).elim (fun q => q ▸ r.1.2) (kv_sok t x)
theorem xe_sumV (hc : X.calm = true) (hm : X.mg "sum" = none) {wd : (List (Str × Int) → Prop) → Prop} (h : XD X z Γ a tyI wd) (hg : Gl X "sum" := by rfl) (hbase : attributeBase a "values" X.env (eval a X.env) = eval a X.env := by rfl) (hline : (apos.endLine == mpos.line) = true := by rfl)
    (hse : starEach [Expr.Call (.Attribute a "values" apos) [] [] mpos] X.env = [(false, eval (Expr.Call (.Attribute a "values" apos) [] [] mpos) X.env)] := by rfl) :
    XE X z Γ (.Call (.Name "sum" p) [.Call (.Attribute a "values" apos) [] [] mpos] [] pos) tyI (fun k => wd fun d => k ((d.map (·.2)).sum)) := fun G0 H0 σ G H k Q E hw hk =>
  ⟨_, pe_sumVals hc hg hm re hbase hline hse, h G0 H0 σ G H _ _ E hw fun G1 H1 q ks xs W1 S1 sq r h1 => ⟨q, ks, _, rfl, sq.r, kv_vals r, hk G1 H1 _ _ W1 S1 rfl h1⟩⟩
theorem xf_sortD (hc : X.calm = true) (hm : X.mg "sorted" = none) (h : XD X z Γ a A wd) (hg : Gl X "sorted" := by rfl) (hs : starEach (a :: []) X.env = (false, eval a X.env) :: starEach [] X.env := by rfl) :
    XF X z Γ (.Call (.Name "sorted" p) [a] [] pos) tyS (fun k => wd fun d => d.length < 64 ∧ k (sortS (keys d))) := fun G0 H0 σ G H k Q E hw hk =>
  ⟨_, pe_callB (call_sortedD hc) hg hm (by decide +kernel) (pa_cons re pa_nil hs) (by decide) (by decide) hs rfl, h G0 H0 σ G H _ _ E hw fun G1 H1 q ks xs W1 S1 sq r ⟨hl, h1⟩ => ⟨q, ks, keys xs, rfl, sq.r, kv_keys r, by unfold keys; rw [List.length_map]; exact hl, fun ys p hp hs' np => by
    rw [sortS_eq hp (sortedS_pw ys hs')]
    exact xf_last W1 S1 (pair_strs _ _ fun x hx => kv_sok r x ((sortS_perm _).mem_iff.mp hx)) h1 hk p np⟩⟩
theorem xf_listD (hc : X.calm = true) (hm : X.mg "list" = none) (i : Nat) {d : List (Str × α)} {x : Str} (hΓ : Γ[i]? = some (.md A d)) (hN : X.N[i]? = some x) (hv : Vis X.env.scope x) (hg : Gl X "list" := by rfl) (hs : starEach (.Name x p2 :: []) X.env = (false, eval (.Name x p2) X.env) :: starEach [] X.env := by rfl)
    (hd : (x == ("__debug__" : Str)) = false := by decide) (hcd : (x == ("__classdict__" : Str)) = false := by decide) : XF X z Γ (.Call (.Name "list" p) [.Name x p2] [] pos) tyS (fun k => k (keys d)) := fun G0 H0 σ G H k Q E hw hk => by
  obtain ⟨o, e, l, ks, rfl, r, q⟩ := E.at_ hΓ
  refine ⟨_, pe_callTy (call_list_dK hc) hg hm (by decide +kernel) (pa_cons (pe_var hN hv hd hcd) pa_nil hs) (by decide) (by decide) hs rfl, _, e, l, ks, rfl, r.h, ?_⟩
  have e2 : (ks.map fun kv => kV kv.1) = (keys d).map V.str := by
    have e3 := kv_keys q
    have e4 : (ks.map fun kv => kV kv.1) = (ks.map (·.1)).map kV := by rw [List.map_map]; rfl
    rw [e4, e3, List.map_map]
    rfl
  rw [e2]
  exact xf_last E.wd (Stp.refl _ _ _) (pair_strs _ _ (kv_sok q)) hw hk
theorem xe_bits (h : XE X z Γ a tyI wi) (hbase : attributeBase a "bit_length" X.env (eval a X.env) = eval a X.env := by rfl) (hline : (apos.endLine == pos.line) = true := by rfl) : XE X z Γ (.Call (.Attribute a "bit_length" apos) [] [] pos) tyI (fun k => wi fun x => k ((Builtin.Int.intBits x : Nat) : Int)) := fun G0 H0 σ G H k Q E hw hk =>
  ⟨_, pe_bits re hbase hline, h G0 H0 σ G H _ _ E hw fun G1 H1 v x W1 S1 r h1 => ⟨x, r, hk G1 H1 _ _ W1 S1 rfl h1⟩⟩
/-! ### a, b = c, d -/
theorem y_par (i j : Nat) {px py pt : Pos} {kt k2 : Nat} {pt2 : Pos} {wk : α → β → Prop} (hN : X.N.Nodup) (hi : X.N[i]? = some x) (hj : X.N[j]? = some y) (hij : i ≠ j) (hx : X.env.scope.names.lookup x = some .local) (hy : X.env.scope.names.lookup y = some .local) (hc : X.calm = true) (ha : XE X z Γ a A wa) (hb : XE X z Γ b B wb)
    (hw2 : swappedStores [.Tuple [.Name x px, .Name y py] kt pt] (.Tuple [a, b] k2 pt2) X.env = pure (some [x, y])) (hw : w → wa fun v => wb fun u => Bnd v fun v' => Bnd u fun u' => wk v' u') (hn : ∀ v u, XB X z ct ((Γ.set i (.fz A v)).set j (.fz B u)) rest (wk v u))
    (hs : swapsWithSole [.Tuple [.Name x px, .Name y py] kt pt] (.Tuple [a, b] k2 pt2) pos.line X.env = pure false := by rfl)
    (hs1 : starEach (a :: [b]) X.env = (false, eval a X.env) :: starEach [b] X.env := by rfl) (hs2 : starEach (b :: []) X.env = (false, eval b X.env) :: starEach [] X.env := by rfl) :
    XB X z ct Γ (.Assign [.Tuple [.Name x px, .Name y py] kt pt] (.Tuple [a, b] k2 pt2) pos :: rest) w := fun G0 H0 D σ G H M E hw0 =>
  ⟨_, pss_cons (ps_par hc hN hi hj hij hx hy (pa_cons re (pa_cons re pa_nil hs2) hs1) hw2 hs) rs, ha G0 H0 σ G H _ _ E (hw hw0) fun G1 H1 v1 x1 W1 S1 r1 h1 => hb G0 H0 σ G1 H1 _ _ (E.step W1 S1) h1 fun G2 H2 v2 x2 W2 S2 r2 h2 =>
    ⟨v1, v2, rfl, hn x1 x2 G0 H0 D _ G2 H2 M ((((E.step W1 S1).step W2 S2).fz i (A.mono S2.g r1)).fz j r2) h2⟩⟩
theorem y_augSub (i : Nat) {n : Int} {wk : Int → Prop} (hN : X.N.Nodup) (hi : X.N[i]? = some x) (hx : Loc X.env.scope x) (hΓ : Γ[i]? = some (.fz tyI n)) (he : XE X z Γ e tyI wi) (hw : w → wi fun y => Bnd (n - y) wk) (hn : ∀ y, XB X z ct (Γ.set i (.fz tyI y)) rest (wk y))
    (hf : X.fn x = true ∨ X.env.scope.names.lookup x = some .local := by first | exact .inl rfl | exact .inr rfl) :
    XB X z ct Γ (.AugAssign (.Name x p) .Sub e pos :: rest) w := fun G0 H0 D σ G H M E hw0 => by
  obtain ⟨ov, eo, v, rfl, r⟩ := E.at_ hΓ
  refine ⟨_, pss_cons (ps_aug hN hi hx re ip_sub hf) rs, v, eo, he G0 H0 σ G H _ _ E (hw hw0) fun G1 H1 u y W1 S1 ry g1 => ?_⟩
  exact ⟨n, y, r, ry, hn _ G0 H0 D _ G1 H1 M ((E.step W1 S1).fz i (show tyI.rep G1 (.int (n - y)) (n - y) from rfl)) g1⟩
/-! ### isinstance of one's own classes -/
structure Isi (K : PySem.W.Frag) (C : Addr) : Prop where
  cl : Cls K C
  ha : PySem.W.findIn K (.ref C) "__class__" = some (some (.builtin "object.__class__"))
  hn : PySem.W.specialIn K (.builtin "object.__class__") "__get__" = some (some (.builtin "getset_descriptor.__get__"))
  htk : PySem.W.takesIn K (.builtin "object.__class__") = some true
  hm : PySem.W.mroIn K C (.type "object") = some true
def isiB (K : PySem.W.Frag) (x : Str) : Bool := He.eqO (PySem.W.findIn K (.ref (He.ga K x)) "__class__") (some (some (.builtin "object.__class__"))) && (He.eqO (PySem.W.specialIn K (.builtin "object.__class__") "__get__") (some (some (.builtin "getset_descriptor.__get__"))) &&
  (decide (PySem.W.takesIn K (.builtin "object.__class__") = some true) && decide (PySem.W.mroIn K (He.ga K x) (.type "object") = some true)))
theorem isi_ok {K : PySem.W.Frag} {x : Str} (c : Cls K (He.ga K x)) (h : isiB K x = true) : Isi K (He.ga K x) := by
  unfold isiB at h
  obtain ⟨h1, h⟩ := He.ba h
  obtain ⟨h2, h⟩ := He.ba h
  obtain ⟨h3, h4⟩ := He.ba h
  exact ⟨c, He.eqO_ok h1, He.eqO_ok h2, of_decide_eq_true h3, of_decide_eq_true h4⟩
theorem kit_self {K : PySem.W.Frag} {C : Addr} : PySem.W.kitOne K (.ref C) (.ref C) = some true := by
  unfold PySem.W.kitOne
  rw [if_pos (by exact beq_self_eq_true _)]
theorem xe_isiO {C : Addr} {ns : List Str} (hm : X.mg "isinstance" = none) (hC : X.mg x = some (.ref C)) (i : Isi X.K C) (h : XE X z Γ a (tyO C ns Rf) wo) (hg : Gl X "isinstance" := by rfl) (hg2 : Gl X x := by rfl)
    (hs : starEach (a :: [.Name x p2]) X.env = (false, eval a X.env) :: starEach [.Name x p2] X.env := by rfl) (hs2 : starEach (.Name x p2 :: []) X.env = (false, eval (.Name x p2) X.env) :: starEach [] X.env := by rfl)
    (hpl : (backTo pos (starEach [.Name x p2] X.env)).any (·.1) = false := by rfl) (hd : (x == ("__debug__" : Str)) = false := by decide) :
    XE X z Γ (.Call (.Name "isinstance" p) [a, .Name x p2] [] pos) tyB (fun k => wo fun _ => k true) := fun G0 H0 σ G H k Q E hw hk =>
  ⟨_, pe_callB call_isi hg hm (by decide +kernel) (pa_cons re (pa_cons (pe_glob (v := .ref C) hg2 hC rfl hd) pa_nil hs2) hs) (by decide) (by decide) hs hpl, h G0 H0 σ G H _ _ E hw fun G1 H1 v y W1 S1 ⟨q, dx, vs, ev, hq, r⟩ h1 =>
    ⟨v, .ref C, _, _, true, rfl, .own C, by rw [ev]; exact .base (.ins (W1.of hq (fun _ => by intro z; cases z)) i.cl i.ha i.hn i.htk i.hm), kit_self, hk G1 H1 _ true W1 S1 rfl h1⟩⟩
end
end Zk
/-! TL16: == of data at any depth; regions asked and changed; the head with own facts. -/
namespace Zk
section
open PySem PySem.Spec L2
/-- data that == looks into -/
class DpTy {α : Type} (A : Ty α) where
  enc : α → PyData
  dep : Nat
  dp : ∀ {K : PySem.W.Frag} {z : Zs} {G H : Hp} {v : V} {x : α}, Wd z G H → A.rep G v x → Dp K H v (enc x) ∧ (enc x).canLay0 = true
  le : ∀ x, (enc x).depth ≤ dep
  ev : ∀ x y, PyData.eqv (enc x) (enc y) = true ↔ x = y
class DpRow {ρ : Type} (R : Row ρ) where
  enc : ρ → List PyData
  dep : Nat
  dp : ∀ {K : PySem.W.Frag} {z : Zs} {G H : Hp} {vs : List V} {x : ρ}, Wd z G H → R.rep G vs x → DpAll K H vs (enc x) ∧ PyData.canLayAll0 (enc x) = true
  le : ∀ x, PyData.depthAll (enc x) ≤ dep
  ev : ∀ x y, PyData.eqvAll (enc x) (enc y) = true ↔ x = y
variable {α β ρ : Type} {A : Ty α} {R : Row ρ}
instance : DpTy tyI := ⟨.int, 0, fun _ h => ⟨by rw [show _ = V.int _ from h]; exact .int _, rfl⟩, fun _ => Nat.le_refl _, fun x y => by simp [PyData.eqv]⟩
instance : DpTy tyB := ⟨.bool, 0, fun _ h => ⟨by rw [show _ = V.bl _ from h]; exact .bl _, rfl⟩, fun _ => Nat.le_refl _, fun x y => by simp [PyData.eqv]⟩
instance : DpTy tyS := ⟨.str, 0, fun _ h => ⟨by rw [show _ = V.str _ from h.1]; exact .str _, h.2⟩, fun _ => Nat.le_refl _, fun x y => by simp [PyData.eqv]⟩
theorem dpall [d : DpTy A] {K : PySem.W.Frag} {z : Zs} {G H : Hp} (W : Wd z G H) : ∀ {vs : List V} {xs : List α}, Paired (A.rep G) vs xs → DpAll K H vs (xs.map d.enc) ∧ PyData.canLayAll0 (xs.map d.enc) = true
  | _, _, .nil => ⟨.nil, rfl⟩
  | _, _, .cons r t => by
    obtain ⟨h1, h2⟩ := d.dp (K := K) W r
    obtain ⟨h3, h4⟩ := dpall W t
    exact ⟨.cons h1 h3, by rw [List.map_cons]; unfold PyData.canLayAll0; rw [h2, h4]; rfl⟩
theorem dple [d : DpTy A] : ∀ xs : List α, PyData.depthAll (xs.map d.enc) ≤ d.dep
  | [] => Nat.zero_le _
  | x :: xs => by
    rw [List.map_cons, PyData.depthAll]
    exact Nat.max_le.mpr ⟨d.le x, dple xs⟩
theorem dpev [d : DpTy A] : ∀ xs ys : List α, PyData.eqvAll (xs.map d.enc) (ys.map d.enc) = true ↔ xs = ys
  | [], [] => by simp [PyData.eqvAll]
  | [], _ :: _ => by simp [PyData.eqvAll]
  | _ :: _, [] => by simp [PyData.eqvAll]
  | x :: xs, y :: ys => by
    rw [List.map_cons, List.map_cons, PyData.eqvAll, Bool.and_eq_true, d.ev, dpev xs ys, List.cons.injEq]
instance [d : DpTy A] : DpTy (tyL A) := ⟨fun xs => .list (xs.map d.enc), d.dep + 1, fun W ⟨q, vs, e, hq, r⟩ => by
  obtain ⟨h1, h2⟩ := dpall W r
  exact ⟨by rw [e]; exact .lst (SqL.of (W.of hq nodl)) h1, by simpa [PyData.canLay0] using h2⟩, fun xs => by simp only [PyData.depth]; exact Nat.succ_le_succ (dple xs), fun x y => by simp only [PyData.eqv]; exact dpev x y⟩
instance [d : DpTy A] : DpTy (tyP A) := ⟨fun xs => .tuple (xs.map d.enc), d.dep + 1, fun W ⟨q, vs, e, hq, r⟩ => by
  obtain ⟨h1, h2⟩ := dpall W r
  exact ⟨by rw [e]; exact .tup (SqT.of (W.of hq nodt)) h1, by simpa [PyData.canLay0] using h2⟩, fun xs => by simp only [PyData.depth]; exact Nat.succ_le_succ (dple xs), fun x y => by simp only [PyData.eqv]; exact dpev x y⟩
instance : DpRow Row.nil := ⟨fun _ => [], 0, fun _ h => by rw [show _ = [] from h]; exact ⟨.nil, rfl⟩, fun _ => Nat.le_refl _, fun _ _ => by simp [PyData.eqvAll]⟩
instance [d : DpTy A] : DpRow (Row.one A) := ⟨fun x => [d.enc x], d.dep, fun W ⟨v, e, r⟩ => by
  obtain ⟨h1, h2⟩ := d.dp W r
  rw [e]
  exact ⟨.cons h1 .nil, by unfold PyData.canLayAll0; rw [h2]; rfl⟩, fun x => by
  rw [PyData.depthAll]
  exact Nat.max_le.mpr ⟨d.le x, Nat.zero_le _⟩, fun x y => by simp only [PyData.eqvAll, Bool.and_true]; exact d.ev x y⟩
instance [d : DpTy A] [r : DpRow R] : DpRow (Row.cons A R) := ⟨fun x => d.enc x.1 :: r.enc x.2, max d.dep r.dep, fun W ⟨v, us, e, h, t⟩ => by
  obtain ⟨h1, h2⟩ := d.dp W h
  obtain ⟨h3, h4⟩ := r.dp W t
  rw [e]
  exact ⟨.cons h1 h3, by unfold PyData.canLayAll0; rw [h2, h4]; rfl⟩, fun x => by
  rw [PyData.depthAll]
  exact Nat.max_le.mpr ⟨Nat.le_trans (d.le _) (Nat.le_max_left _ _), Nat.le_trans (r.le _) (Nat.le_max_right _ _)⟩, fun x y => by
  rw [PyData.eqvAll, Bool.and_eq_true, d.ev, r.ev]
  exact ⟨fun h => Prod.ext h.1 h.2, fun h => by rw [h]; exact ⟨rfl, rfl⟩⟩⟩
instance [r : DpRow R] : DpTy (tyT R) := ⟨fun x => .tuple (r.enc x), r.dep + 1, fun W ⟨q, vs, e, hq, h⟩ => by
  obtain ⟨h1, h2⟩ := r.dp W h
  exact ⟨by rw [e]; exact .tup (SqT.of (W.of hq nodt)) h1, by simpa [PyData.canLay0] using h2⟩, fun x => by simp only [PyData.depth]; exact Nat.succ_le_succ (r.le x), fun x y => by simp only [PyData.eqv]; exact r.ev x y⟩
instance [r : DpRow R] : DpTy (tyM R) := ⟨fun x => .list (r.enc x), r.dep + 1, fun W ⟨q, vs, e, hq, h⟩ => by
  obtain ⟨h1, h2⟩ := r.dp W h
  exact ⟨by rw [e]; exact .lst (SqL.of (W.of hq nodl)) h1, by simpa [PyData.canLay0] using h2⟩, fun x => by simp only [PyData.depth]; exact Nat.succ_le_succ (r.le x), fun x y => by simp only [PyData.eqv]; exact r.ev x y⟩
section
variable {X : Cx} {z : Zs} {Γ Γ1 : List Sl} {ct : Ct} {a b c e o tg iter : Expr} {es : List Expr} {rest body orelse : List Stmt} {γ τ φ : Type} {B : Ty β} {A2 : Ty2 α} {B2 : Ty2 β} {C2 : Ty2 γ} {R2 : Row2 ρ} {pos p p' p2 apos mpos : Pos} {x y m : Str} {w : Prop}
  {wa wa2 : (α → Prop) → Prop} {wb : (β → Prop) → Prop} {wi : (Int → Prop) → Prop} {wc : (Bool → Prop) → Prop}
theorem ev_dec [DecidableEq α] [d : DpTy A] (x y : α) : PyData.eqv (d.enc x) (d.enc y) = decide (x = y) := by
  by_cases h : x = y
  · rw [decide_eq_true h]; exact (d.ev x y).mpr h
  · rw [decide_eq_false h]
    cases q : PyData.eqv (d.enc x) (d.enc y) with
    | false => rfl
    | true => exact absurd ((d.ev x y).mp q) h
theorem shaped_of [d : DpTy A] (hd : d.dep ≤ 64) {x : α} (h : (d.enc x).canLay0 = true) : SeqAt.shaped (d.enc x) = true := by
  unfold SeqAt.shaped
  rw [h, decide_eq_true (Nat.le_trans (d.le x) hd)]
  rfl
theorem o2_eqD {K : PySem.W.Frag} [DecidableEq α] [d : DpTy A] (hd : d.dep ≤ 64) : Op2 z A A tyB (rEqD K) (fun x y k => k (decide (x = y))) := fun G H v u x y k Q W r1 r2 hw hk => by
  obtain ⟨h1, h2⟩ := d.dp (K := K) W r1
  obtain ⟨h3, h4⟩ := d.dp (K := K) W r2
  refine ⟨_, _, h1, h3, shaped_of hd h2, shaped_of hd h4, ?_⟩
  rw [ev_dec]
  exact hk G H _ _ W (Stp.refl _ _ _) rfl hw
theorem o2_neD {K : PySem.W.Frag} [DecidableEq α] [d : DpTy A] (hd : d.dep ≤ 64) : Op2 z A A tyB (rNeD K) (fun x y k => k (!decide (x = y))) := fun G H v u x y k Q W r1 r2 hw hk => by
  obtain ⟨h1, h2⟩ := d.dp (K := K) W r1
  obtain ⟨h3, h4⟩ := d.dp (K := K) W r2
  refine ⟨_, _, h1, h3, shaped_of hd h2, shaped_of hd h4, ?_⟩
  rw [ev_dec]
  exact hk G H _ _ W (Stp.refl _ _ _) rfl hw
theorem xt_eqD [DecidableEq α] [d : DpTy A] (hu : X.A.units + 64 < cLine) (ha : XE X z Γ a A wa) (hb : XE X z Γ b A wa2) (hd : d.dep ≤ 64 := by exact Nat.le_of_ble_eq_true rfl) : XT X z Γ (.Compare a [.Eq] [b] pos) (fun k => wa fun x => wa2 fun y => k (decide (x = y))) := xt_cmp (op_eqD hu) (o2_eqD hd) (nomark _) ha hb
theorem xt_neD [DecidableEq α] [d : DpTy A] (hu : X.A.units + 64 < cLine) (ha : XE X z Γ a A wa) (hb : XE X z Γ b A wa2) (hd : d.dep ≤ 64 := by exact Nat.le_of_ble_eq_true rfl) : XT X z Γ (.Compare a [.NotEq] [b] pos) (fun k => wa fun x => wa2 fun y => k (!decide (x = y))) := xt_cmp (op_neD hu) (o2_neD hd) (nomark _) ha hb
theorem xe_eqD [DecidableEq α] [d : DpTy A] (hu : X.A.units + 64 < cLine) (ha : XE X z Γ a A wa) (hb : XE X z Γ b A wa2) (hd : d.dep ≤ 64 := by exact Nat.le_of_ble_eq_true rfl) : XE X z Γ (.Compare a [.Eq] [b] pos) tyB (fun k => wa fun x => wa2 fun y => k (decide (x = y))) := xe_cmp (op_eqD hu) (o2_eqD hd) (nomark _) ha hb
theorem xe_neD [DecidableEq α] [d : DpTy A] (hu : X.A.units + 64 < cLine) (ha : XE X z Γ a A wa) (hb : XE X z Γ b A wa2) (hd : d.dep ≤ 64 := by exact Nat.le_of_ble_eq_true rfl) : XE X z Γ (.Compare a [.NotEq] [b] pos) tyB (fun k => wa fun x => wa2 fun y => k (!decide (x = y))) := xe_cmp (op_neD hu) (o2_neD hd) (nomark _) ha hb
/-! ### a region asked -/
theorem y_if1Rg (j : Nat) {R : Hp} {n : Bool} {cc : Nat} {y : α} {w1 w2 : Prop} (hj : Γ[j]? = some (.rg R R n cc A2 y)) (hc : XT X Z0 (noSt (Γ.set j (.fz A2.T y))) c wc) (hw : w → wc fun b => if b = true then w1 else w2) (h1 : XB X z { ct with n := fun _ => False } Γ body w1) (hr : XB X z ct Γ rest w2) : XB X z ct Γ (.If c body [] pos :: rest) w := fun G0 H0 D σ G H M E hw0 => by
  obtain ⟨ov, eo, v, rfl, r, k, q, f⟩ := E.at_ hj
  obtain ⟨sg, E2⟩ := E.freezeD (D := R) (S' := .fz A2.T y) hj eo (fun p hp => hp) q rfl ⟨v, rfl, A2.to (fun a u e => (q a u e).g) r⟩
  have M' : Meets z G0 H0 { D with nx := RS X rest D } { ct with n := fun _ => False } := ⟨fun _ _ _ _ _ q => q.elim, M.b, M.c, M.r⟩
  refine ⟨_, pss_cons (ps_if rt rs rs) rs, hc _ _ σ _ H _ _ E2.z0 (hw hw0) fun G1 H1 b W1 S1 g1 => ?_⟩
  obtain ⟨W, S⟩ := rg_back E hj W1 S1
  cases b with
  | true => exact h1 G0 H0 _ σ _ H1 M' (E.step W S) g1
  | false => exact ⟨_, pss_nil, hr G0 H0 D σ _ H1 M (E.step W S) g1⟩
/-- path[b] = e, one tuple for another -/
theorem y_mutT (i : Nat) {R R' : Hp} {n : Bool} {cc : Nat} {y : α} {wk : Prop} {Rt : Row ρ} {wl : (List ρ → Prop) → Prop} (hΓ : Γ[i]? = some (.rg R R' n cc A2 y)) (hp : XP X z Γ R R' a (t2L (t2N (tyT Rt))) wl) (hb : XE X z Γ b tyI wi) (he : XE X z Γ e B wb) (hw : w → wb fun _ => wl fun xs => wi fun j => 0 ≤ j ∧ j.toNat < xs.length ∧ wk)
    (hn : ∀ R', XB X z ct (Γ.set i (.rg R R' n cc A2 y)) rest wk)
    (hs : swapsWithSole [.Subscript a b p2] e pos.line X.env = pure false := by rfl) (hw2 : swappedStores [.Subscript a b p2] e X.env = pure none := by rfl)
    (h1 : (assignEach [.Subscript a b p2] X.env).map (·.2) = [assign (.Subscript a b p2) X.env] := by rfl)
    (ha : ∀ v, assign (.Subscript a b p2) X.env v = (do
      let ov ← holding [v] (eval a X.env)
      let iv ← holding [v, ov] (eval b X.env)
      standAt p2
      holding [v, ov, iv] (setItem ov iv v)
      release [v, ov, iv] []) := by intro _; rfl) :
    XB X z ct Γ (.Assign [.Subscript a b p2] e pos :: rest) w := fun G0 H0 D σ G H M E hw0 => by
  refine ⟨_, pss_cons (ps_asg re (pg_sub re re set_list ha) hs hw2 h1) rs, ?_⟩
  refine he G0 H0 σ G H _ _ E (hw hw0) fun G1 H1 u n1 W1 S1 ru g1 => ?_
  refine hp G0 H0 σ G1 H1 _ _ (E.step W1 S1) g1 fun G2 H2 v v' xs W2 S2 r kd g2 => ?_
  refine hb G0 H0 σ G2 H2 _ _ ((E.step W1 S1).step W2 S2) g2 fun G3 H3 iv j W3 S3 rj ⟨j0, j1, g3⟩ => ?_
  have E3 := ((E.step W1 S1).step W2 S2).step W3 S3
  obtain ⟨q, vs, ev, rq, p⟩ := r
  obtain ⟨vs', rq', sk, ow⟩ := (RgOk.of E3 hΓ).now rq
  have e1 := kd.lst q vs ev rq
  have hlv : vs.length = xs.length := p.length
  have hl : j.toNat < vs'.length := by have := sk.1.1; omega
  obtain ⟨w0, ew, rw0⟩ := Paired.at_ p (show xs[j.toNat]? = some xs[j.toNat] from by simp [j1])
  refine ⟨q, vs', j, j.toNat, by rw [e1, ev], rj, ow.h, ?_, ?_⟩
  · unfold ixN
    rw [if_pos (by omega), if_pos (by omega)]
  · have kd2 : Kd R w0 u := by
      obtain ⟨l, us, el, hl2, _⟩ := rw0
      rw [el]
      refine ⟨fun _ h => (nomatch h), fun _ h => (nomatch h), fun b2 vs2 h hR => ?_⟩
      injection h with h
      subst h
      obtain ⟨o, eo, v3, rfl, r3, sk3, ow3, f3⟩ := E3.at_ hΓ
      obtain ⟨vs3, e3, _⟩ := sk3.lst l vs2 hR
      have := (ow3 l _ e3).g
      have g2' : G3 l = some (.tup us) := S3.g l _ hl2
      rw [this] at g2'
      cases g2'
    exact hn _ G0 H0 D σ G3 _ M (E3.mutRg hΓ rq rq' (Nat.le_refl _) (sk.setAt ew kd2) fun v f r h => fix_set rq' List.length_set (f h)) g3
end
end
/-! ### the head with own facts -/
section
open PySem PySem.Spec PyProof.Rows L2 He
def obsX (ex : PySem.W.Frag → Bool) (fa : List Fa) (fn : List DefD) (K : PySem.W.Frag) : AlD × Bool := (obsD fa fn K, ex K)
def SaysX (ex : PySem.W.Frag → Bool) (fa : List Fa) (fn : List DefD) (K : PySem.W.Frag) : Prop := SaysD fa fn K ∧ ex K = true
def obsXG (n : Nat) (ex : PySem.W.Frag → Bool) (fa : List Fa) (fn : List DefD) (g : Addr → Option Obj) : AlD × Bool := obsX ex fa fn (frG g (asD g n))
def hookX (n : Nat) (ex : PySem.W.Frag → Bool) (fa : List Fa) (fn : List DefD) : PySem.W.Hook where
  α := AlD × Bool
  obs := fun s => obsXG n ex fa fn s.heap.get?
  val := fun _ => (valD fn, true)
  says := fun _ h => ∃ K : PySem.W.Frag, K.In h ∧ SaysX ex fa fn K
  of := fun _ _ e => ⟨_, frG_in, congrArg Prod.fst e, congrArg Prod.snd e⟩
  keeps := fun _ _ _ ⟨K, hK, c⟩ k => ⟨K, PySem.W.Frag.In.keeps hK k, c⟩
theorem obsXG_eq {n : Nat} {ex : PySem.W.Frag → Bool} {fa : List Fa} {fn : List DefD} {g : Addr → Option Obj} {s : Shared} (h : ∀ a, g a = s.heap.get? a) : obsXG n ex fa fn g = (hookX n ex fa fn).obs s := by
  have e : g = s.heap.get? := funext h
  rw [e] <;> rfl
end
end Zk
/-! TL17: list(a tuple of so many). -/
namespace Zk
open PySem PySem.Spec L2
/-- a row whose items are old things -/
class RowN {ρ : Type} (R : Row ρ) (R2 : outParam (Row2 ρ)) : Prop where
  to : ∀ {G Rg vs x}, R.rep G vs x → R2.rep G Rg vs x
  len : ∀ {G Rg vs x}, R2.rep G Rg vs x → vs.length = R.n
instance : RowN Row.nil Row2.nil := ⟨fun h => h, fun h => by rw [show _ = [] from h]; rfl⟩
instance {α : Type} {A : Ty α} : RowN (Row.one A) (Row2.one (t2N A)) := ⟨fun ⟨v, e, r⟩ => ⟨v, e, r⟩, fun ⟨v, e, _⟩ => by rw [e]; rfl⟩
instance {α ρ : Type} {A : Ty α} {R : Row ρ} {R2 : Row2 ρ} [h : RowN R R2] : RowN (Row.cons A R) (Row2.cons (t2N A) R2) := ⟨fun ⟨v, r, e, q, t⟩ => ⟨v, r, e, q, h.to t⟩, fun ⟨v, r, e, q, t⟩ => by
  rw [e, List.length_cons, h.len t]
  rfl⟩
section
variable {X : Cx} {z : Zs} {Γ : List Sl} {a : Expr} {ρ : Type} {R : Row ρ} {R2 : Row2 ρ} {p pos : Pos} {wr : (ρ → Prop) → Prop}
theorem xr_listT [n : RowN R R2] (hm : X.mg "list" = none) (h : XE X z Γ a (tyT R) wr) (hg : Gl X "list" := by rfl) (hs : starEach (a :: []) X.env = (false, eval a X.env) :: starEach [] X.env := by rfl) : XR X z Γ (.Call (.Name "list" p) [a] [] pos) (t2M R2) wr := fun G0 H0 σ G H k Q E hw hk =>
  ⟨_, pe_callTy call_list_of hg hm (by decide +kernel) (pa_cons re pa_nil hs) (by decide) (by decide) hs rfl, h G0 H0 σ G H _ _ E hw fun G1 H1 v x W1 S1 ⟨q, vs, ev, hq, r⟩ h1 => ⟨q, vs, by rw [ev], .inr (SqT.of (W1.of hq nodt)), fun l nl => by
    obtain ⟨n2, s2⟩ := (Nw.nil (H := H) (G' := G1) (H' := H1)).add (ws := vs) W1 S1 nl
    exact hk G1 _ _ _ x (W1.own nl) (S1.trans (Stp.own nl)) n2 ⟨l, vs, rfl, upd_same, n.to r⟩ h1⟩⟩
theorem xe_listT (hm : X.mg "list" = none) (h : XE X z Γ a (tyT R) wr) (hg : Gl X "list" := by rfl) (hs : starEach (a :: []) X.env = (false, eval a X.env) :: starEach [] X.env := by rfl) : XE X z Γ (.Call (.Name "list" p) [a] [] pos) (tyM R) wr := fun G0 H0 σ G H k Q E hw hk =>
  ⟨_, pe_callTy call_list_of hg hm (by decide +kernel) (pa_cons re pa_nil hs) (by decide) (by decide) hs rfl, h G0 H0 σ G H _ _ E hw fun G1 H1 v x W1 S1 ⟨q, vs, ev, hq, r⟩ h1 => ⟨q, vs, by rw [ev], .inr (SqT.of (W1.of hq nodt)), fun l nl =>
    hk _ _ _ x (W1.new nl) (S1.trans (Stp.new W1.gh nl)) ⟨l, vs, rfl, upd_same, R.mono (same_new (W1.gh.free nl)) r⟩ h1⟩⟩
end
end Zk
/-! TL18: calls with keywords, in the parameters' order. -/
namespace Zk
section
open PySem PySem.Spec PyProof.Rows L2
theorem Paired.app' {α β : Type} {F : α → β → Prop} : ∀ {l l' : List α} {m m' : List β}, PySem.Paired F l m → PySem.Paired F l' m' → PySem.Paired F (l ++ l') (m ++ m')
  | _, _, _, _, .nil, s => s
  | _, _, _, _, .cons r t, s => .cons r (Paired.app' t s)
theorem kbn_of {K : PySem.W.Frag} {x qual : Str} {params : Arguments} {body : List Stmt} {scope : Scope} {kws : List (Str × V)} {f : Addr} {fd : FuncData} {ps ks : List Str} {n : Nat} (F : FunD K x qual params body scope [] kws f fd)
    (h : ∀ (kV doc pm : Value) (an : Option Addr) (cdv ct : Value) (us ws : List Value), us.length = n → ws.length = ks.length → bindArgs (PySem.W.fnOf x qual params body scope .none kV doc pm an cdv ct) ⟨us, ks.zip ws⟩ = pure (ps.zip (us ++ ws))) :
    KBn K fd ps n ks (fun us ws => us ++ ws) (fun vs zs => vs ++ zs) := by
  obtain ⟨oc, od, dV, kV, doc, pm, an, cdv, ct, osl, rfl, lk, hcd, hD, hK⟩ := F.ex
  rcases hD with ⟨_, rfl⟩ | ⟨e, _⟩
  · exact ⟨fun s us ws X l1 l2 => .of_eq (h kV doc pm an cdv ct us ws l1 l2), fun r1 r2 => Zk.Paired.app' r1 r2⟩
  · exact absurd rfl e
/-- f(k = v, ..) -/
theorem pe_callK0 {X : Cx} {CX : CXT} {k : Nat} {f : Addr} {fd : FuncData} {ps ks : List Str} {sp : Sp} {E : XK} {x : Str} {p pos : Pos} {kws : List Keyword} {tk : TA} {g : List Value → List Value → List Value} {gV : List V → List V → List V} (F : FnOk X.prog X.w X.K X.mg X.base CX k f fd ps sp) (hr : Room k X.A) (hg : Gl X x) (hm : X.mg x = some (.ref f)) (hk : PySem.W.keepIn X.K (.ref f) = true) (hb : KBn X.K fd ps 0 ks g gV) (hx : Passes CX X E) (hkw : PK X kws tk)
    (hall : (backToKw pos (keywordEach kws X.env)).all (·.1.isSome) = true := by rfl) (hks : (backToKw pos (keywordEach kws X.env)).filterMap (·.1) = ks := by rfl) (hdb : (x == ("__debug__" : Str)) = false := by decide)
    (hpl : ((backTo pos (starEach [] X.env)).any (·.1) || (backToKw pos (keywordEach kws X.env)).any (·.1.isNone)) = false := by rfl) :
    PE X (.Call (.Name x p) [] kws pos) (tCallN 0 ks.length sp gV E tNil tk) := by
  refine ⟨fun pins s σ H Q I h => ?_⟩
  refine wpAny_Call_Name_kw (ld_glob I hg hm ?_ hdb)
  refine PySem.W.callWith_KW0 (h₀ := X.base) I.ok.mod.kin hk hall ?_ hpl
  refine thn (hkw.run pos pins s σ H _ I h) fun ws s2 ⟨zs, H2, I2, rz, l1, l2, q2⟩ => ⟨I2.kIn, ?_⟩
  rw [hks]
  exact run_fnN (us := []) (vs := []) F hr hb hx I2 .nil rz rfl l2 q2
end
open PySem PySem.Spec L2
def CleK (P : Program) (w : World) (K : PySem.W.Frag) (mg : Str → Option Value) (base : Heap) (x : Str) (n m : Nat) (ks : List Str) (sp : Sp) : Prop :=
  ∃ (f : Addr) (fd : FuncData) (ps : List Str), FnOk P w K mg base CX0 n f fd ps sp ∧ mg x = some (.ref f) ∧ PySem.W.keepIn K (.ref f) = true ∧ KBn K fd ps m ks (fun us ws => us ++ ws) (fun vs zs => vs ++ zs)
def CleIK (P : Program) (w : World) (K : PySem.W.Frag) (mg : Str → Option Value) (base : Heap) (x : Str) (C : Addr) (n m : Nat) (ks : List Str) (sp : Sp) : Prop :=
  ∃ (f : Addr) (fd : FuncData) (ps : List Str), FnOk P w K mg base CX0 n f fd ps sp ∧ Mk K C f ∧ mg x = some (.ref C) ∧ KBn K fd ps (m + 1) ks (fun us ws => us ++ ws) (fun vs zs => vs ++ zs)
def RK (X : Cx) (kws : List Keyword) : TA := fun σ H Q => ∃ t, PK X kws t ∧ t σ H Q
theorem rk {X : Cx} {kws : List Keyword} : PK X kws (RK X kws) := ⟨fun pos pins s σ H Q I ⟨_, hp, h⟩ => hp.run pos pins s σ H Q I h⟩
def XKw (X : Cx) (z : Zs) (Γ : List Sl) (kws : List Keyword) {ρ : Type} (R : Row ρ) (w : (ρ → Prop) → Prop) : Prop :=
  ∀ (G0 H0 : Hp) (σ : L2.St) (G H : Hp) (k : ρ → Prop) (Q : List V → Hp → Prop), Ev z G0 H0 G H σ Γ → w k → (∀ G' H' vs y, Wd z G' H' → Stp z G H G' H' → R.rep G' vs y → k y → Q vs H') → RK X kws σ H Q
/-- two rows as one -/
class RowApp {ρ1 ρ2 : Type} (R1 : Row ρ1) (R2 : Row ρ2) {ρ : outParam Type} (R : outParam (Row ρ)) (f : outParam (ρ1 → ρ2 → ρ)) : Prop where
  to : ∀ {G vs us x y}, R1.rep G vs x → R2.rep G us y → R.rep G (vs ++ us) (f x y)
instance {α ρ2 : Type} {A : Ty α} {R2 : Row ρ2} : RowApp (Row.one A) R2 (Row.cons A R2) (fun x y => (x, y)) := ⟨fun ⟨v, e, r⟩ q => ⟨v, _, by rw [e]; rfl, r, q⟩⟩
instance {α ρ1 ρ2 ρ : Type} {A : Ty α} {R1 : Row ρ1} {R2 : Row ρ2} {R : Row ρ} {f : ρ1 → ρ2 → ρ} [h : RowApp R1 R2 R f] : RowApp (Row.cons A R1) R2 (Row.cons A R) (fun x y => (x.1, f x.2 y)) := ⟨fun ⟨v, r, e, a, t⟩ q => ⟨v, _, by rw [e]; rfl, a, h.to t q⟩⟩
section
variable {X : Cx} {z : Zs} {Γ : List Sl} {a b c e o : Expr} {es : List Expr} {kws : List Keyword} {α β γ ρ ρ1 ρ2 φ : Type} {A : Ty α} {B : Ty β} {R : Row ρ} {R1 : Row ρ1} {R2 : Row ρ2} {f : ρ1 → ρ2 → ρ} {Rf : Row φ} {pos p kpos : Pos} {n : Nat} {x m : Str} {nm : Option Str} {C : Addr} {ns ks : List Str}
  {wa : (α → Prop) → Prop} {wr1 : (ρ1 → Prop) → Prop} {wr2 : (ρ2 → Prop) → Prop} {wr : (ρ → Prop) → Prop}
theorem xk_one (h : XE X z Γ e A wa) : XKw X z Γ [⟨nm, e, kpos⟩] (Row.one A) wa := fun G0 H0 σ G H k Q E hw hk =>
  ⟨_, pk_cons re pk_nil, h G0 H0 σ G H _ _ E hw fun G1 H1 v x W1 S1 r1 h1 => hk G1 H1 [v] x W1 S1 ⟨v, rfl, r1⟩ h1⟩
theorem xk_cons (h : XE X z Γ e A wa) (hr : XKw X z Γ kws R wr) : XKw X z Γ (⟨nm, e, kpos⟩ :: kws) (Row.cons A R) (fun k => wa fun x => wr fun y => k (x, y)) := fun G0 H0 σ G H k Q E hw hk =>
  ⟨_, pk_cons re rk, h G0 H0 σ G H _ _ E hw fun G1 H1 v x W1 S1 r1 h1 => hr G0 H0 σ G1 H1 _ _ (E.step W1 S1) h1 fun G2 H2 vs y W2 S2 r2 h2 =>
    hk G2 H2 (v :: vs) (x, y) W2 (S1.trans S2) ⟨v, vs, rfl, A.mono S2.g r1, r2⟩ h2⟩
theorem spP_use' {w : ρ → (β → Prop) → Prop} {G H G1 H1 : Hp} {vs : List V} {y : ρ} {k : β → Prop} {Q : VK} (W1 : Wd z G1 H1) (S1 : Stp z G H G1 H1) (r : R.rep G1 vs y) (hw : w y k)
    (hk : ∀ G' H' v y, Wd z G' H' → Stp z G H G' H' → B.rep G' v y → k y → Q v H') : spP R B w vs H1 Q E0 :=
  ⟨G1, y, k, W1.z0, r, hw, fun G' H' v y W' S' r' q => hk G' H' v y (W1.after0 W' S') (S1.trans S'.lift) r' q⟩
/-- f(k = v, ..) -/
theorem xe_callK0 {w : ρ → (β → Prop) → Prop} (F : CleK X.prog X.w X.K X.mg X.base x n 0 ks (spP R B w)) (hr : Room n X.A) (ha : XKw X z Γ kws R wr) (hlen : R.n = ks.length) (hg : Gl X x := by rfl)
    (hall : (backToKw pos (keywordEach kws X.env)).all (·.1.isSome) = true := by rfl) (hks : (backToKw pos (keywordEach kws X.env)).filterMap (·.1) = ks := by rfl) (hdb : (x == ("__debug__" : Str)) = false := by decide)
    (hpl : ((backTo pos (starEach [] X.env)).any (·.1) || (backToKw pos (keywordEach kws X.env)).any (·.1.isNone)) = false := by rfl) :
    XE X z Γ (.Call (.Name x p) [] kws pos) B (fun k => wr fun y => w y k) := fun G0 H0 σ G H k Q E hw hk => by
  obtain ⟨f, fd, ps, F, hm, hkp, hb⟩ := F
  exact ⟨_, pe_callK0 F hr hg hm hkp hb pass0 rk hall hks hdb hpl, ha G0 H0 σ G H _ _ E hw fun G1 H1 vs y W1 S1 r h1 => ⟨rfl, (R.len r).trans hlen, spP_use' W1 S1 r h1 hk⟩⟩
/-- f(e, .., k = v, ..) -/
theorem xe_callK {w : ρ → (β → Prop) → Prop} {mm : Nat} [ra : RowApp R1 R2 R f] (F : CleK X.prog X.w X.K X.mg X.base x n mm ks (spP R B w)) (hr : Room n X.A) (ha1 : XA X z Γ (e :: es) R1 wr1) (ha : XKw X z Γ kws R2 wr2) (hlen1 : R1.n = mm) (hlen : R2.n = ks.length) (hg : Gl X x := by rfl)
    (hall : (backToKw pos (keywordEach kws X.env)).all (·.1.isSome) = true := by rfl) (hks : (backToKw pos (keywordEach kws X.env)).filterMap (·.1) = ks := by rfl) (hdb : (x == ("__debug__" : Str)) = false := by decide) (he : starEach (e :: es) X.env = (false, eval e X.env) :: starEach es X.env := by rfl)
    (hpl : ((backTo pos (starEach (e :: es) X.env)).any (·.1) || (backToKw pos (keywordEach kws X.env)).any (·.1.isNone)) = false := by rfl) :
    XE X z Γ (.Call (.Name x p) (e :: es) kws pos) B (fun k => wr1 fun y1 => wr2 fun y2 => w (f y1 y2) k) := fun G0 H0 σ G H k Q E hw hk => by
  obtain ⟨f, fd, ps, F, hm, hkp, hb⟩ := F
  exact ⟨_, pe_callN F hr hg hm hkp hb pass0 (Zk.ra) rk hall hks hdb he hpl, ha1 G0 H0 σ G H _ _ E hw fun G1 H1 vs y1 W1 S1 r1 h1 => ha G0 H0 σ G1 H1 _ _ (E.step W1 S1) h1 fun G2 H2 zs y2 W2 S2 r2 h2 =>
    ⟨(R1.len r1).trans hlen1, (R2.len r2).trans hlen, spP_use' W2 (S1.trans S2) (ra.to (R1.mono S2.g r1) r2) h2 hk⟩⟩
/-- C(k = v, ..) -/
theorem xe_makeK0 {w : ρ → (φ → Prop) → Prop} (F : CleIK X.prog X.w X.K X.mg X.base x C n 0 ks (spI C ns R Rf w)) (hr : Room (n + 1) X.A) (ha : XKw X z Γ kws R wr) (hlen : R.n = ks.length) (hg : Gl X x := by rfl)
    (hall : (backToKw pos (keywordEach kws X.env)).all (·.1.isSome) = true := by rfl) (hks : (backToKw pos (keywordEach kws X.env)).filterMap (·.1) = ks := by rfl) (hdb : (x == ("__debug__" : Str)) = false := by decide)
    (hpl : ((backTo pos (starEach [] X.env)).any (·.1) || (backToKw pos (keywordEach kws X.env)).any (·.1.isNone)) = false := by rfl) :
    XE X z Γ (.Call (.Name x p) [] kws pos) (tyO C ns Rf) (fun k => wr fun y => w y k) := fun G0 H0 σ G H k Q E hw hk => by
  obtain ⟨f, fd, ps, F, M, hm, hb⟩ := F
  exact ⟨_, pe_makeK0 M F hr hg hm hb pass0 rk hall hks hdb hpl, ha G0 H0 σ G H _ _ E hw fun G1 H1 vs y W1 S1 r h1 => ⟨rfl, (R.len r).trans hlen, fun q dx nq nd ne =>
    ⟨q, dx, vs, G1, H1, y, k, rfl, rfl, nq, nd, ne, W1.z0, r, h1, fun G' H' y W' S' r' q' => ⟨rfl, hk G' H' _ y (W1.after0 W' S') (S1.trans S'.lift) r' q'⟩⟩⟩⟩
end
section
variable {P : Program} {w : World} {K : PySem.W.Frag} {mg : Str → Option Value} {base : Heap} {ρ β φ : Type} {R : Row ρ} {B : Ty β} {Rf : Row φ} {x qual : Str} {params : Arguments} {body : List Stmt} {scope : Scope} {f : Addr} {fd : FuncData} {N ps : List Str} {n : Nat} {C : Addr} {m : Str}
  {fsl : ρ → List Sl}
theorem fn_I {ns : List Str} {Γ0 : Addr → ρ → List Sl} {wf : ρ → (φ → Prop) → Prop} (F : FunD K "__init__" qual params body scope [] [] f fd) (S : FnScope N ps scope) (hn : R.n + 1 = ps.length) (hN : R.n + 1 ≤ N.length) (q : RowSl R fsl)
    (hΓ : ∀ p y, Γ0 p y = .ob p C [] :: (fsl y ++ List.replicate (N.length - (R.n + 1)) .no)) (hB : BodyI P w K mg base N qual scope body f n C ns Rf Γ0 wf) : FnOk P w K mg base CX0 (n + 1) f fd ps (spI C ns R Rf wf) := by
  refine F.ok S (fun vs H Q E h => ?_) (fun cdv A outer s H vs Q E hr h => ?_)
  · obtain ⟨p, dx, rs', G, Hb, y, k, e, _, _, _, _, _, r, _⟩ := h
    rw [e, List.length_cons, R.len r, hn]
  · obtain ⟨p, dx, rs', G, Hb, y, k, e, eH, np, nd, ne, W, r, hw, hk⟩ := h
    subst e eH
    refine ⟨_, PSs.nox rs, hB cdv A outer s _ E hr p y k G Hb _ _ G _ ⟨fun σ G' H' Γ E' ⟨fs, z, h0, hns, hR, kz⟩ => ?_, fun _ _ _ _ _ z => z.elim, fun _ _ _ _ _ z => z.elim, fun _ _ _ _ _ _ _ _ z => z.elim⟩ (by rw [hΓ]; exact ev_startI q W np nd ne r hN) hw⟩
    obtain ⟨o, eo, dx', vs', rfl, r', q'⟩ := E'.at_ h0
    have sg : Same G' (upd G' p (.ins C dx' vs')) := same_new r'.g
    have E2 := E'.freeze (S' := .no) h0 eo rfl r' rfl trivial
    obtain ⟨e1, e2⟩ := fz_split (FR.mono sg q')
    rw [hns] at e1
    exact hk _ H' z E2.wd E2.base ⟨p, dx', vs'.map (·.2), rfl, by rw [← e1]; exact upd_same, hR _ _ e2⟩ kz
end
end Zk
/-! TL19: operators of one's own classes, == and != by an own __eq__, sources of two classes. -/
namespace Zk
open PySem PySem.Spec L2

section
variable {X : Cx} {pins : List (Addr × Obj)} {σ : L2.St} {H : Hp} {s : Shared} {n : Nat} {f C : Addr} {fd : FuncData} {ps : List Str} {sp : Sp}
theorem run_at {A : Around} {Q : VK} {us : List Value} {vs : List V} (F : FnOk X.prog X.w X.K X.mg X.base CX0 n f fd ps sp) (hr : Room n A) (hfr : A.frames = X.A.frames) (hb : Binds X.K fd ps []) {E : Value → Shared → Prop}
    (I : Inv X pins σ H s) (r : Vals vs us) (h : sp vs H Q E0) : wpAny (model X.prog X.w) A (call (.ref f) us) (EP X pins σ Q) E s := by
  have e0 : Env0 X.prog X.w X.K X.mg X.base A X.stack s H := by
    have e := I.env0
    exact ⟨by rw [hfr]; exact e.frames, e.mod, e.bs, e.bsz, e.funs, e.frf, e.hok, e.bare⟩
  have hl : us.length = ps.length := by rw [← r.length]; exact F.len _ _ _ _ h
  refine wpAny_call (codeAny_mono (F.run A X.stack s H ⟨us, []⟩ us vs Q E0 hr e0 (by
    have := hb s us I.kIn (by simpa using hl)
    simpa using this) r h) fun r s' hq => ?_)
  cases r with
  | error e => exact hq.elim
  | ok fl =>
    cases fl with
    | ret u => exact I.after hq
    | next => exact False.elim hq
    | brk => exact False.elim hq
    | cont => exact False.elim hq
theorem back_of {Q : VK} {v : Value} (h : EP X pins σ Q v s) : PySem.W.CmpBack (EP X pins σ Q) v s := by
  obtain ⟨x, H', I, r, q⟩ := id h
  cases x with
  | non => cases r; exact h
  | bl b => cases r; exact h
  | int i => obtain ⟨t, rfl⟩ := r; exact h
  | str i => obtain ⟨t, rfl⟩ := r; exact h
  | byt i => obtain ⟨t, rfl⟩ := r; exact h
  | flt i => obtain ⟨t, rfl⟩ := r; exact h
  | ref a => cases r; exact h
  | ty n => cases r; exact h
/-- two instances of the class at C, then the own method's promise -/
def rOwn (C : Addr) (sp : Sp) : R2 := fun x y H Q => ∃ a dx fs b dy gs, x = .ref a ∧ H a = some (.ins C dx fs) ∧ y = .ref b ∧ H b = some (.ins C dy gs) ∧ sp [x, y] H Q E0
theorem op_own {op : Operator} (F : FnOk X.prog X.w X.K X.mg X.base CX0 n f fd ps sp) (hr : Room n X.A) (hb : Binds X.K fd ps []) (M : Meth X.K C (PySem.dunder op.info.2) f) (sf : PySem.W.selfFirst X.K C = true) :
    OpR X (binaryOp op) (rOwn C sp) := by
  intro pins s σ H x y v u Q I rx ry ⟨a, dx, fs, b, dy, gs, ex, ha, ey, hb', hs⟩
  subst ex
  subst ey
  cases rx
  cases ry
  obtain ⟨mA, J, _⟩ := ins_get I.hok ha
  obtain ⟨mB, J', _⟩ := ins_get I.hok hb'
  obtain ⟨od, J, _⟩ := J.look
  obtain ⟨od', J', _⟩ := J'.look
  obtain ⟨m, hF⟩ := I.fr
  exact PySem.W.binop_K hF I.ok.mod.kin J J'.type sf M.at_ M.fn (wpAny_mono (run_at F hr rfl hb I (vs := [.ref a, .ref b]) (.cons rfl (.cons rfl .nil)) hs) (fun v s' q => back_of q) fun _ _ x => x)
theorem op_ownEq (F : FnOk X.prog X.w X.K X.mg X.base CX0 n f fd ps sp) (hr : Room n X.A) (hb : Binds X.K fd ps []) (M : Meth X.K C "__eq__" f) :
    OpR X (compareOp .Eq) (rOwn C sp) := by
  intro pins s σ H x y v u Q I rx ry ⟨a, dx, fs, b, dy, gs, ex, ha, ey, hb', hs⟩
  subst ex
  subst ey
  cases rx
  cases ry
  obtain ⟨mA, J, _⟩ := ins_get I.hok ha
  obtain ⟨mB, J', _⟩ := ins_get I.hok hb'
  obtain ⟨od, J, _⟩ := J.look
  obtain ⟨od', J', _⟩ := J'.look
  obtain ⟨m, hF⟩ := I.fr
  exact PySem.W.cmp_K (op := .Eq) (tb := .ref C) hr.units0 hF I.ok.mod.kin J J'.type (by simp [PySem.W.notFirst]) M.at_ M.fn (wpAny_mono (run_at F hr rfl hb I (vs := [.ref a, .ref b]) (.cons rfl (.cons rfl .nil)) hs) (fun v s' q => back_of q) fun _ _ x => x)
end
/-! ### != by an own __eq__ -/
section
variable {prog : Program} {w : World} {A : Around} {E : Value → Shared → Prop} {h : Heap} {g : Array GenState} {d : Drawn} {t : Nat} {os : OsState} {C x y f : Addr} {K : PySem.W.Frag} {ox : Obj} {od : Option Obj}
theorem objNe_entry (X : K.In h) (I : PySem.W.InstAt h x ox C od) (hs : PySem.W.findIn K (.ref C) "__eq__" = some (some (.ref f))) (hf : PySem.W.isFn K (.ref f) = true) (hu : A.units < cLine) {Q : Fin → Shared → Prop}
    (hcall : wpAny (model prog w) A (call (.ref f) [.ref x, .ref y]) (fun v s' => ∃ b, v = .bool b ∧ Q (.done (.ret (.bool (!b)))) s') E ⟨h, g, d, t, os⟩) :
    wpAny (model prog w) A (Builtin.«object.__ne__» ⟨[.ref x, .ref y], []⟩) Q E ⟨h, g, d, t, os⟩ := by
  unfold Builtin.«object.__ne__»
  repeat (first
    | with_reducible refine wpAny_cRoomFor hu ?_
    | (refine wpAny_bind (m := callSpecialIfBound? (.ref x) (Str.ofString "__eq__") [.ref y])
        (PySem.W.ifBound_K (s := ⟨h, g, d, t, os⟩) X I hs hf (wpAny_mono hcall (fun r s' hr => by
          obtain ⟨b, rfl, hq⟩ := hr
          repeat (first | exact hq | exact wpAny_pure hq | exact wpAny_truthy_bool hq | (refine wpAny_bind (m := truthy (.bool _)) (wpAny_truthy_bool ?_)) | wp_step)) fun _ _ e => e)))
    | wp_step)
end
section
variable {prog : Program} {w : World} {A : Around} {E : Value → Shared → Prop} {s : Shared} {C x y f : Addr} {K : PySem.W.Frag} {ox : Obj} {od : Option Obj}
theorem ifBound_objNe {M : Model} {args : List Value} {Q : Option Value → Shared → Prop} (X : K.In s.heap) (I : PySem.W.InstAt s.heap x ox C od) (hs : PySem.W.findIn K (.ref C) "__ne__" = some (some (.builtin "object.__ne__")))
    (h : wpAny M A (call (.builtin "object.__ne__") (.ref x :: args)) (fun v => Q (some v)) E s) : wpAny M A (callSpecialIfBound? (.ref x) "__ne__" args) Q E s := by
  simp only [callSpecialIfBound?, bindSpecialIfBound?]
  refine wpAny_holding (wpAny_bind (wpAny_bind (wpAny_bind (I.type.here ((PySem.W.looks_findIn X hs).here ?_)))))
  refine wpAny_bind (wpAny_askSetting (wpAny_ite ?_))
  have fin : wpAny M A (call (.builtin "object.__ne__") ([.ref x] ++ args) >>= fun v => pure (some v)) Q E s := wpAny_bind (wpAny_mono h (fun v s' h' => wpAny_pure h') fun _ _ h' => h')
  split
  · exact wpAny_bind (wpAny_of_eq (F.cmp_object.ne.bind _) (wpAny_pure (by exact fin)))
  · exact wpAny_tryCatch (wpAny_bind (wpAny_of_eq (F.cmp_object.ne.bind _) (wpAny_pure (by exact fin))))
structure NeK (K : PySem.W.Frag) (C : Addr) : Prop where
  ne : PySem.W.findIn K (.ref C) "__ne__" = some (some (.builtin "object.__ne__"))
  hm : PySem.W.mroIn K C (.type "object") = some true
theorem rc_ne {tb : Value} {b : Value} {Q : Value → Shared → Prop} (hu : A.units + 1 < cLine) (X : K.In s.heap) (I : PySem.W.InstAt s.heap x ox C od) {oy : Obj} {ody : Option Obj} (J : PySem.W.InstAt s.heap y oy C ody) (N : NeK K C)
    (hs : PySem.W.findIn K (.ref C) "__eq__" = some (some (.ref f))) (hf : PySem.W.isFn K (.ref f) = true)
    (hcall : wpAny (model prog w) A.in1 (call (.ref f) [.ref x, .ref y]) (fun v s' => ∃ b, v = .bool b ∧ Q (.bool (!b)) s') E s) : wpAny (model prog w) A (richCompare .NotEq (.ref x) (.ref y)) Q E s := by
  have one : wpAny (model prog w) A (tryCompare (.ref x) (cmpInfo .NotEq).2.1 (.ref y)) (fun r s' => ∃ v, r = some v ∧ Q v s') E s := by
    unfold tryCompare
    refine wpAny_bind (ifBound_objNe X I N.ne (wpAny_call (codeAny_call_builtin F.cmp_object.ne.plain F.cmpEntry_ne (PySem.W.check_slot F.cmpKind_ne F.cmpSplit_ne (I.type.andThen (PySem.W.looks_mroIn X N.hm)) (F.cmpArgs_ne _ _) ?_))))
    obtain ⟨h, g, d, t, os⟩ := s
    refine objNe_entry (A := A.in1) X I hs hf (by show A.units + 1 < cLine; exact hu) (wpAny_mono hcall (fun v s' hv => ?_) fun _ _ e => e)
    obtain ⟨b, rfl, hq⟩ := hv
    first | exact ⟨b, rfl, wpAny_pure ⟨_, rfl, hq⟩⟩ | exact ⟨b, rfl, wpAny_pure (wpAny_pure ⟨_, rfl, hq⟩)⟩ | exact ⟨b, rfl, _, rfl, hq⟩
  unfold richCompare
  simp only [oneThing_ref]
  refine wpAny_holding (wpAny_bind (wpAny_cRoomFor (Nat.lt_of_succ_lt hu) ?_))
  refine wpAny_bind (I.type.here (wpAny_bind (J.type.here ?_)))
  rw [show (Value.ref C != Value.ref C) = false from by simp]
  simp only [Bool.false_eq_true, if_false]
  refine wpAny_bind (wpAny_pure ?_)
  simp only [Bool.false_eq_true, if_false]
  refine wpAny_bind (wpAny_mono one (fun r s' z => ?_) fun _ _ e => e)
  obtain ⟨v, rfl, hq⟩ := z
  exact wpAny_pure hq
end
section
variable {X : Cx} {n : Nat} {f C : Addr} {fd : FuncData} {ps : List Str} {sp : Sp}
def rOwnNe (C : Addr) (sp : Sp) : R2 := fun x y H Q => ∃ a dx fs b dy gs, x = .ref a ∧ H a = some (.ins C dx fs) ∧ y = .ref b ∧ H b = some (.ins C dy gs) ∧ sp [x, y] H (fun v H' => ∃ r, v = .bl r ∧ Q (.bl (!r)) H') E0
theorem op_ownNe (F : FnOk X.prog X.w X.K X.mg X.base CX0 n f fd ps sp) (hr : Room (n + 1) X.A) (hb : Binds X.K fd ps []) (M : Meth X.K C "__eq__" f) (N : NeK X.K C) :
    OpR X (compareOp .NotEq) (rOwnNe C sp) := by
  intro pins s σ H x y v u Q I rx ry ⟨a, dx, fs, b, dy, gs, ex, ha, ey, hb', hs⟩
  subst ex
  subst ey
  cases rx
  cases ry
  obtain ⟨mA, J, _⟩ := ins_get I.hok ha
  obtain ⟨mB, J', _⟩ := ins_get I.hok hb'
  obtain ⟨od, J, _⟩ := J.look
  obtain ⟨od', J', _⟩ := J'.look
  refine rc_ne (tb := .none) (b := .none) (by have := hr.in1.units0; exact this) I.kIn J J' N M.at_ M.fn (wpAny_mono (run_at F hr.in1 rfl hb I (vs := [.ref a, .ref b]) (.cons rfl (.cons rfl .nil)) hs) (fun v s' q => ?_) fun _ _ x => x)
  obtain ⟨z, H', I', rz, r, ez, q⟩ := q
  subst ez
  cases rz
  exact ⟨r, rfl, .bl (!r), H', I', rfl, q⟩
end
/-! ### as rules -/
section
variable {X : Cx} {z : Zs} {Γ : List Sl} {a b c e o : Expr} {es : List Expr} {α β γ ρ φ : Type} {A : Ty α} {B : Ty β} {R : Row ρ} {Rf : Row φ} {pos p apos : Pos} {n : Nat} {x m : Str} {C : Addr} {ns : List Str}
  {wr : (ρ → Prop) → Prop} {wo wo2 : (φ → Prop) → Prop}
theorem o2_own {w : φ × φ → (β → Prop) → Prop} : Op2 z (tyO C ns Rf) (tyO C ns Rf) B (rOwn C (spP (Row.cons (tyO C ns Rf) (Row.one (tyO C ns Rf))) B w)) (fun x y k => w (x, y) k) := fun G H v u x y k Q W r1 r2 hw hk => by
  obtain ⟨a, dx, fs, ea, ha, _⟩ := id r1
  obtain ⟨b, dy, gs, eb, hb, _⟩ := id r2
  exact ⟨a, dx, _, b, dy, _, ea, W.of ha (fun _ => by intro z; cases z), eb, W.of hb (fun _ => by intro z; cases z), spP_use (vs := [v, u]) W (Stp.refl _ _ _) ⟨v, [u], rfl, r1, u, rfl, r2⟩ hw hk⟩
theorem o2_ownNe {w : φ × φ → (Bool → Prop) → Prop} : Op2 z (tyO C ns Rf) (tyO C ns Rf) tyB (rOwnNe C (spP (Row.cons (tyO C ns Rf) (Row.one (tyO C ns Rf))) tyB w)) (fun x y k => w (x, y) fun b => k (!b)) := fun G H v u x y k Q W r1 r2 hw hk => by
  obtain ⟨a, dx, fs, ea, ha, _⟩ := id r1
  obtain ⟨b, dy, gs, eb, hb, _⟩ := id r2
  exact ⟨a, dx, _, b, dy, _, ea, W.of ha (fun _ => by intro z; cases z), eb, W.of hb (fun _ => by intro z; cases z), spP_use (B := tyB) (vs := [v, u]) W (Stp.refl _ _ _) ⟨v, [u], rfl, r1, u, rfl, r2⟩ hw fun G' H' v' y' W' S' r' q => ⟨y', r', hk G' H' _ _ W' S' rfl q⟩⟩
theorem xe_opO {op : Operator} {nm : Str} {w : φ × φ → (β → Prop) → Prop} (hnm : PySem.dunder op.info.2 = nm) (F : CleM X.prog X.w X.K X.mg X.base C nm n (spP (Row.cons (tyO C ns Rf) (Row.one (tyO C ns Rf))) B w)) (hr : Room n X.A) (sf : PySem.W.selfFirst X.K C = true)
    (ha : XE X z Γ a (tyO C ns Rf) wo) (hb : XE X z Γ b (tyO C ns Rf) wo2) : XE X z Γ (.BinOp a op b pos) B (fun k => wo fun x => wo2 fun y => w (x, y) k) := by
  subst hnm
  obtain ⟨f, fd, ps, F, hm, hbn⟩ := F
  exact xe_op (op_own F hr hbn hm sf) o2_own ha hb
theorem xe_eqO {w : φ × φ → (Bool → Prop) → Prop} (F : CleM X.prog X.w X.K X.mg X.base C "__eq__" n (spP (Row.cons (tyO C ns Rf) (Row.one (tyO C ns Rf))) tyB w)) (hr : Room n X.A)
    (ha : XE X z Γ a (tyO C ns Rf) wo) (hb : XE X z Γ b (tyO C ns Rf) wo2) : XE X z Γ (.Compare a [.Eq] [b] pos) tyB (fun k => wo fun x => wo2 fun y => w (x, y) k) := by
  obtain ⟨f, fd, ps, F, hm, hbn⟩ := F
  exact xe_cmp (op_ownEq F hr hbn hm) o2_own (nomark _) ha hb
theorem xt_eqO {w : φ × φ → (Bool → Prop) → Prop} (F : CleM X.prog X.w X.K X.mg X.base C "__eq__" n (spP (Row.cons (tyO C ns Rf) (Row.one (tyO C ns Rf))) tyB w)) (hr : Room n X.A)
    (ha : XE X z Γ a (tyO C ns Rf) wo) (hb : XE X z Γ b (tyO C ns Rf) wo2) : XT X z Γ (.Compare a [.Eq] [b] pos) (fun k => wo fun x => wo2 fun y => w (x, y) k) := by
  obtain ⟨f, fd, ps, F, hm, hbn⟩ := F
  exact xt_cmp (op_ownEq F hr hbn hm) o2_own (nomark _) ha hb
theorem xe_neO {w : φ × φ → (Bool → Prop) → Prop} (F : CleM X.prog X.w X.K X.mg X.base C "__eq__" n (spP (Row.cons (tyO C ns Rf) (Row.one (tyO C ns Rf))) tyB w)) (hr : Room (n + 1) X.A) (N : NeK X.K C)
    (ha : XE X z Γ a (tyO C ns Rf) wo) (hb : XE X z Γ b (tyO C ns Rf) wo2) : XE X z Γ (.Compare a [.NotEq] [b] pos) tyB (fun k => wo fun x => wo2 fun y => w (x, y) fun b => k (!b)) := by
  obtain ⟨f, fd, ps, F, hm, hbn⟩ := F
  exact xe_cmp (op_ownNe F hr hbn hm N) o2_ownNe (nomark _) ha hb
theorem xt_neO {w : φ × φ → (Bool → Prop) → Prop} (F : CleM X.prog X.w X.K X.mg X.base C "__eq__" n (spP (Row.cons (tyO C ns Rf) (Row.one (tyO C ns Rf))) tyB w)) (hr : Room (n + 1) X.A) (N : NeK X.K C)
    (ha : XE X z Γ a (tyO C ns Rf) wo) (hb : XE X z Γ b (tyO C ns Rf) wo2) : XT X z Γ (.Compare a [.NotEq] [b] pos) (fun k => wo fun x => wo2 fun y => w (x, y) fun b => k (!b)) := by
  obtain ⟨f, fd, ps, F, hm, hbn⟩ := F
  exact xt_cmp (op_ownNe F hr hbn hm N) o2_ownNe (nomark _) ha hb
end
end Zk
/-! TL20: a thing of one of two classes; methods of what __init__ makes; dicts walked. -/
namespace Zk
open PySem PySem.Spec L2

/-! ### one of two kinds, read alike -/
def tyEi {α β : Type} (A : Ty α) (B : Ty β) (f : β → α) : Ty α where
  rep := fun G v x => A.rep G v x ∨ ∃ y, B.rep G v y ∧ f y = x
  mono := fun s h => h.imp (A.mono s) fun ⟨y, r, e⟩ => ⟨y, B.mono s r, e⟩
/-- o.m(..), the class at C or the one at C2 -/
def tMeth2 (C C2 : Addr) (m : Str) (sp sp2 : Sp) (ta : TE) (t : TA) : TE := fun σ H Q => ta σ H fun x H1 => ∃ a dx fs, x = .ref a ∧ fs.lookup m = none ∧
  ((H1 a = some (.ins C dx fs) ∧ t σ H1 fun vs H2 => sp (x :: vs) H2 Q E0) ∨ (H1 a = some (.ins C2 dx fs) ∧ t σ H1 fun vs H2 => sp2 (x :: vs) H2 Q E0))
section
variable {X : Cx} {z : Zs} {Γ : List Sl} {a b c e o : Expr} {es : List Expr} {α β γ ρ φ φ2 : Type} {A : Ty α} {B : Ty β} {R : Row ρ} {Rf : Row φ} {Rf2 : Row φ2} {pos p apos : Pos} {n n2 : Nat} {x m : Str} {C C2 : Addr} {ns ns2 : List Str}
  {wr : (ρ → Prop) → Prop} {wo : (φ → Prop) → Prop} {wa : (α → Prop) → Prop} {wb : (β → Prop) → Prop}
theorem xe_inA {f : β → α} (h : XE X z Γ e A wa) : XE X z Γ e (tyEi A B f) wa := xe_as (y' := Unit) id (fun _ _ _ r => .inl r) h
theorem xe_inB {f : β → α} (h : XE X z Γ e B wb) : XE X z Γ e (tyEi A B f) (fun k => wb fun y => k (f y)) := xe_as (y' := Unit) f (fun _ _ x r => .inr ⟨x, r, rfl⟩) h
theorem pe_meth2 {ta : TE} {t : TA} {f f2 : Addr} {fd fd2 : FuncData} {ps ps2 : List Str} {sp sp2 : Sp} {pl : Sem Bool} (he : PE X o ta) (c : Cls X.K C) (c2 : Cls X.K C2) (hm : Meth X.K C m f) (hm2 : Meth X.K C2 m f2)
    (F : FnOk X.prog X.w X.K X.mg X.base CX0 n f fd ps sp) (F2 : FnOk X.prog X.w X.K X.mg X.base CX0 n2 f2 fd2 ps2 sp2) (hr : Room n X.A) (hr2 : Room n2 X.A) (hb : Binds X.K fd ps []) (hb2 : Binds X.K fd2 ps2 []) (ha : PA X (e :: es) t)
    (hst : starEach (e :: es) X.env = (false, eval e X.env) :: starEach es X.env := by rfl) (hpl : (backTo pos (starEach es X.env)).any (·.1) = false := by rfl)
    (ht : eval (.Call (.Attribute o m apos) (e :: es) [] pos) X.env = (do
      let ov ← eval o X.env
      standAt apos.atName
      let (f, first) ← holding [ov] (getMethod ov m pl)
      callWith pos f first (backTo pos (starEach (e :: es) X.env)) (backToKw pos (keywordEach [] X.env))) := by rfl) :
    PE X (.Call (.Attribute o m apos) (e :: es) [] pos) (tMeth2 C C2 m sp sp2 ta t) := by
  refine ⟨fun pins s σ H Q I h => ?_⟩
  refine PySem.W.methodCall_KW (pl := pl) (thn (he.run pins s σ H _ I h) fun u s1 ⟨x, H1, I1, rx, a, dx, fs, ex, l, q⟩ => ?_) ht
  subst ex
  obtain rfl : u = Value.ref a := rx
  rcases q with ⟨ea, q⟩ | ⟨ea, q⟩
  · refine getmeth_ok I1 ea c hm l ?_
    refine PySem.W.callWith_K (first := [.ref a]) (h₀ := X.base) I.ok.mod.kin hm.kp (thn (ha.run pos pins s1 σ H1 _ I1 q) fun us s2 ⟨vs, H2, I2, r, q2⟩ => ⟨I2.kIn, ?_⟩) hst hpl
    exact run_fn (us := .ref a :: us) (vs := .ref a :: vs) F hr hb .nil pass0 I2 (.cons rfl r) (by rw [List.append_nil]; exact q2)
  · refine getmeth_ok I1 ea c2 hm2 l ?_
    refine PySem.W.callWith_K (first := [.ref a]) (h₀ := X.base) I.ok.mod.kin hm2.kp (thn (ha.run pos pins s1 σ H1 _ I1 q) fun us s2 ⟨vs, H2, I2, r, q2⟩ => ⟨I2.kIn, ?_⟩) hst hpl
    exact run_fn (us := .ref a :: us) (vs := .ref a :: vs) F2 hr2 hb2 .nil pass0 I2 (.cons rfl r) (by rw [List.append_nil]; exact q2)
theorem pe_meth20 {ta : TE} {f f2 : Addr} {fd fd2 : FuncData} {ps ps2 : List Str} {sp sp2 : Sp} {pl : Sem Bool} (he : PE X o ta) (c : Cls X.K C) (c2 : Cls X.K C2) (hm : Meth X.K C m f) (hm2 : Meth X.K C2 m f2)
    (F : FnOk X.prog X.w X.K X.mg X.base CX0 n f fd ps sp) (F2 : FnOk X.prog X.w X.K X.mg X.base CX0 n2 f2 fd2 ps2 sp2) (hr : Room n X.A) (hr2 : Room n2 X.A) (hb : Binds X.K fd ps []) (hb2 : Binds X.K fd2 ps2 [])
    (ht : eval (.Call (.Attribute o m apos) [] [] pos) X.env = (do
      let ov ← eval o X.env
      standAt apos.atName
      let (f, first) ← holding [ov] (getMethod ov m pl)
      callWith pos f first (backTo pos (starEach [] X.env)) (backToKw pos (keywordEach [] X.env))) := by rfl) :
    PE X (.Call (.Attribute o m apos) [] [] pos) (tMeth2 C C2 m sp sp2 ta tNil) := by
  refine ⟨fun pins s σ H Q I h => ?_⟩
  refine PySem.W.methodCall_KW (pl := pl) (thn (he.run pins s σ H _ I h) fun u s1 ⟨x, H1, I1, rx, a, dx, fs, ex, l, q⟩ => ?_) ht
  subst ex
  obtain rfl : u = Value.ref a := rx
  rcases q with ⟨ea, q⟩ | ⟨ea, q⟩
  · refine getmeth_ok I1 ea c hm l ?_
    exact PySem.W.callWith_K0 (first := [.ref a]) I1.kIn hm.kp (run_fn (us := [.ref a]) (vs := [.ref a]) F hr hb .nil pass0 I1 (.cons rfl .nil) q)
  · refine getmeth_ok I1 ea c2 hm2 l ?_
    exact PySem.W.callWith_K0 (first := [.ref a]) I1.kIn hm2.kp (run_fn (us := [.ref a]) (vs := [.ref a]) F2 hr2 hb2 .nil pass0 I1 (.cons rfl .nil) q)
theorem xe_meth2 {g : φ2 → φ} {w : φ × ρ → (β → Prop) → Prop} {w2 : φ2 × ρ → (β → Prop) → Prop} {pl : Sem Bool} (hc : Cls X.K C) (hc2 : Cls X.K C2) (F : CleM X.prog X.w X.K X.mg X.base C m n (spP (Row.cons (tyO C ns Rf) R) B w))
    (F2 : CleM X.prog X.w X.K X.mg X.base C2 m n2 (spP (Row.cons (tyO C2 ns2 Rf2) R) B w2)) (hr : Room n X.A) (hr2 : Room n2 X.A) (hmn : m ∉ ns) (hmn2 : m ∉ ns2) (hw : ∀ y r k, w (g y, r) k → w2 (y, r) k)
    (ho : XE X z Γ o (tyEi (tyO C ns Rf) (tyO C2 ns2 Rf2) g) wo) (ha : XA X z Γ (e :: es) R wr)
    (hst : starEach (e :: es) X.env = (false, eval e X.env) :: starEach es X.env := by rfl) (hpl : (backTo pos (starEach es X.env)).any (·.1) = false := by rfl)
    (ht : eval (.Call (.Attribute o m apos) (e :: es) [] pos) X.env = (do
      let ov ← eval o X.env
      standAt apos.atName
      let (f, first) ← holding [ov] (getMethod ov m pl)
      callWith pos f first (backTo pos (starEach (e :: es) X.env)) (backToKw pos (keywordEach [] X.env))) := by rfl) :
    XE X z Γ (.Call (.Attribute o m apos) (e :: es) [] pos) B (fun k => wo fun s => wr fun y => w (s, y) k) := fun G0 H0 σ G H k Q E hw' hk => by
  obtain ⟨f, fd, ps, F, hm, hb⟩ := F
  obtain ⟨f2, fd2, ps2, F2, hm2, hb2⟩ := F2
  refine ⟨_, pe_meth2 re hc hc2 hm hm2 F F2 hr hr2 hb hb2 ra hst hpl ht, ho G0 H0 σ G H _ _ E hw' fun G1 H1 v s W1 S1 r h1 => ?_⟩
  rcases r with r | ⟨s2, r, es2⟩
  · obtain ⟨q, dx, us, ev, hq, r'⟩ := id r
    refine ⟨q, dx, _, ev, zip_none hmn, .inl ⟨(W1.lst hq (fun _ => by intro e; cases e)).r, ha G0 H0 σ G1 H1 _ _ (E.step W1 S1) h1 fun G2 H2 vs y W2 S2 r2 h2 => ?_⟩⟩
    have := spP_use (R := Row.cons (tyO C ns Rf) R) (B := B) (w := w) (y := (s, y)) (vs := v :: vs) W2 (S1.trans S2) ⟨v, vs, rfl, (tyO C ns Rf).mono S2.g r, r2⟩ h2 hk
    rwa [List.append_nil] at this
  · obtain ⟨q, dx, us, ev, hq, r'⟩ := id r
    refine ⟨q, dx, _, ev, zip_none hmn2, .inr ⟨(W1.lst hq (fun _ => by intro e; cases e)).r, ha G0 H0 σ G1 H1 _ _ (E.step W1 S1) h1 fun G2 H2 vs y W2 S2 r2 h2 => ?_⟩⟩
    have := spP_use (R := Row.cons (tyO C2 ns2 Rf2) R) (B := B) (w := w2) (y := (s2, y)) (vs := v :: vs) W2 (S1.trans S2) ⟨v, vs, rfl, (tyO C2 ns2 Rf2).mono S2.g r, r2⟩ (hw s2 y k (by rw [es2]; exact h2)) hk
    rwa [List.append_nil] at this
theorem xe_meth20 {g : φ2 → φ} {w : φ → (β → Prop) → Prop} {w2 : φ2 → (β → Prop) → Prop} {pl : Sem Bool} (hc : Cls X.K C) (hc2 : Cls X.K C2) (F : CleM X.prog X.w X.K X.mg X.base C m n (spP (Row.one (tyO C ns Rf)) B w))
    (F2 : CleM X.prog X.w X.K X.mg X.base C2 m n2 (spP (Row.one (tyO C2 ns2 Rf2)) B w2)) (hr : Room n X.A) (hr2 : Room n2 X.A) (hmn : m ∉ ns) (hmn2 : m ∉ ns2) (hw : ∀ y k, w (g y) k → w2 y k)
    (ho : XE X z Γ o (tyEi (tyO C ns Rf) (tyO C2 ns2 Rf2) g) wo)
    (ht : eval (.Call (.Attribute o m apos) [] [] pos) X.env = (do
      let ov ← eval o X.env
      standAt apos.atName
      let (f, first) ← holding [ov] (getMethod ov m pl)
      callWith pos f first (backTo pos (starEach [] X.env)) (backToKw pos (keywordEach [] X.env))) := by rfl) :
    XE X z Γ (.Call (.Attribute o m apos) [] [] pos) B (fun k => wo fun s => w s k) := fun G0 H0 σ G H k Q E hw' hk => by
  obtain ⟨f, fd, ps, F, hm, hb⟩ := F
  obtain ⟨f2, fd2, ps2, F2, hm2, hb2⟩ := F2
  refine ⟨_, pe_meth20 re hc hc2 hm hm2 F F2 hr hr2 hb hb2 ht, ho G0 H0 σ G H _ _ E hw' fun G1 H1 v s W1 S1 r h1 => ?_⟩
  rcases r with r | ⟨s2, r, es2⟩
  · obtain ⟨q, dx, us, ev, hq, r'⟩ := id r
    exact ⟨q, dx, _, ev, zip_none hmn, .inl ⟨(W1.lst hq (fun _ => by intro e; cases e)).r, spP_use (vs := [v]) W1 S1 ⟨v, rfl, r⟩ h1 hk⟩⟩
  · obtain ⟨q, dx, us, ev, hq, r'⟩ := id r
    exact ⟨q, dx, _, ev, zip_none hmn2, .inr ⟨(W1.lst hq (fun _ => by intro e; cases e)).r, spP_use (vs := [v]) W1 S1 ⟨v, rfl, r⟩ (hw s2 k (by rw [es2]; exact h1)) hk⟩⟩
theorem xe_fld2 {g : φ2 → φ} {f : φ → α} {f2 : φ2 → α} {i i2 : Nat} (hc : Cls X.K C) (hn : NoAttr X.K C m) (hc2 : Cls X.K C2) (hn2 : NoAttr X.K C2 m) (hnd : ns.Nodup) (hnd2 : ns2.Nodup) (hi : ns[i]? = some m) (hi2 : ns2[i2]? = some m) (hr : RowAt Rf i A f) (hr2 : RowAt Rf2 i2 A f2)
    (hf : ∀ y, f (g y) = f2 y) (h : XE X z Γ e (tyEi (tyO C ns Rf) (tyO C2 ns2 Rf2) g) wo) (hb : attributeBase e m X.env (eval e X.env) = eval e X.env := by rfl) :
    XE X z Γ (.Attribute e m pos) A (fun k => wo fun s => k (f s)) := fun G0 H0 σ G H k Q E hw hk =>
  ⟨_, pe_fld re hb, h G0 H0 σ G H _ _ E hw fun G1 H1 v s W1 S1 r h1 => by
    rcases r with ⟨q, dx, us, ev, hq, r⟩ | ⟨s2, ⟨q, dx, us, ev, hq, r⟩, es2⟩
    · obtain ⟨u, hu, ru⟩ := hr G1 us s r
      exact ⟨q, C, dx, _, u, ev, (W1.lst hq (fun _ => by intro e; cases e)).r, hc, hn, zip_some hnd hi hu, hk G1 H1 u _ W1 S1 ru h1⟩
    · obtain ⟨u, hu, ru⟩ := hr2 G1 us s2 r
      exact ⟨q, C2, dx, _, u, ev, (W1.lst hq (fun _ => by intro e; cases e)).r, hc2, hn2, zip_some hnd2 hi2 hu, hk G1 H1 u _ W1 S1 ru (by rw [← hf, es2]; exact h1)⟩⟩
end

/-! ### a method of what __init__ makes -/
/-- G without what stands at p -/
def rmv (G : Hp) (p : Addr) : Hp := fun a => if a = p then none else G a
theorem rmv_ne {G : Hp} {p a : Addr} (h : a ≠ p) : rmv G p a = G a := if_neg h
theorem rmv_self {G : Hp} {p : Addr} : rmv G p p = none := if_pos rfl
/-- a kind of data that names no instance -/
class NoIns {α : Type} (A : Ty α) where
  ok : ∀ {G : Hp} {p C dx : Addr} {fs : List (Str × V)} {v : V} {x : α}, G p = some (.ins C dx fs) → A.rep G v x → A.rep (rmv G p) v x
class NoInsR {ρ : Type} (R : Row ρ) where
  ok : ∀ {G : Hp} {p C dx : Addr} {fs : List (Str × V)} {vs : List V} {x : ρ}, G p = some (.ins C dx fs) → R.rep G vs x → R.rep (rmv G p) vs x
theorem rmv_keep {G : Hp} {p C dx a : Addr} {fs : List (Str × V)} {u : HO} (h : G p = some (.ins C dx fs)) (e : G a = some u) (hu : ∀ C dx fs, u ≠ .ins C dx fs) : rmv G p a = some u := by
  rw [rmv_ne (fun q => hu C dx fs (by rw [q, h] at e; exact (Option.some.inj e).symm))]
  exact e
section
variable {α ρ : Type} {A : Ty α} {R : Row ρ}
instance : NoIns tyI := ⟨fun _ h => h⟩
instance : NoIns tyB := ⟨fun _ h => h⟩
instance : NoIns tyS := ⟨fun _ h => h⟩
instance : NoIns tyU := ⟨fun _ h => h⟩
instance [n : NoIns A] : NoIns (tyL A) := ⟨fun h ⟨a, vs, e, r, p⟩ => ⟨a, vs, e, rmv_keep h r (fun _ _ _ z => by cases z), Paired.mono (fun _ _ => n.ok h) p⟩⟩
instance [n : NoIns A] : NoIns (tyP A) := ⟨fun h ⟨a, vs, e, r, p⟩ => ⟨a, vs, e, rmv_keep h r (fun _ _ _ z => by cases z), Paired.mono (fun _ _ => n.ok h) p⟩⟩
instance [n : NoIns A] : NoIns (tyD A) := ⟨fun h ⟨a, vs, e, r, p⟩ => ⟨a, vs, e, rmv_keep h r (fun _ _ _ z => by cases z), Paired.mono (fun _ _ q => ⟨q.1, n.ok h q.2⟩) p⟩⟩
instance [n : NoIns A] : NoIns (tyN A) := ⟨fun {_ _ _ _ _ _ x} h r => match x, r with
  | none, r => r
  | some _, r => n.ok h r⟩
instance : NoInsR Row.nil := ⟨fun _ h => h⟩
instance [n : NoIns A] : NoInsR (Row.one A) := ⟨fun h ⟨v, e, r⟩ => ⟨v, e, n.ok h r⟩⟩
instance [n : NoIns A] [m : NoInsR R] : NoInsR (Row.cons A R) := ⟨fun h ⟨v, r, e, a, b⟩ => ⟨v, r, e, n.ok h a, m.ok h b⟩⟩
instance [n : NoInsR R] : NoIns (tyT R) := ⟨fun h ⟨a, vs, e, r, p⟩ => ⟨a, vs, e, rmv_keep h r (fun _ _ _ z => by cases z), n.ok h p⟩⟩
instance [n : NoInsR R] : NoIns (tyM R) := ⟨fun h ⟨a, vs, e, r, p⟩ => ⟨a, vs, e, rmv_keep h r (fun _ _ _ z => by cases z), n.ok h p⟩⟩
end
section
variable {X : Cx} {z : Zs} {Γ : List Sl} {a b c e o : Expr} {es : List Expr} {α β γ ρ φ φ2 : Type} {A : Ty α} {B : Ty β} {R : Row ρ} {Rf : Row φ} {pos p apos sp : Pos} {n n2 : Nat} {x m sx : Str} {C C2 : Addr} {ns ns2 : List Str}
  {wr : (ρ → Prop) → Prop}
/-- behind a callee that has seen one's own instance at q -/
theorem lend {z : Zs} {G H G' H' : Hp} {q C dx : Addr} {vs : List (Str × V)} (W : Wd z G H) (hq : H q = some (.ins C dx vs)) (gq : G q = none) (zq : z.at_ ≠ some q) (W' : Wd Z0 G' H') (S' : Stp Z0 (upd G q (.ins C dx vs)) H G' H') :
    Wd z (rmv G' q) H' ∧ Stp z G H (rmv G' q) H' ∧ G' q = some (.ins C dx vs) := by
  have sg : Same G (upd G q (.ins C dx vs)) := same_new gq
  have g' : G' q = some (.ins C dx vs) := S'.g _ _ upd_same
  have sm : Same G (rmv G' q) := fun a u e => by
    rw [rmv_ne (ne_of_none e gq)]
    exact S'.g _ _ (sg _ _ e)
  refine ⟨⟨fun b u e => ?_, fun s es => ?_⟩, ⟨sm, fun a o hz h => S'.h a o (fun q => nomatch q) h, fun a o h g => ?_, S'.t⟩, g'⟩
  · by_cases hb : b = q
    · rw [hb, rmv_self] at e; cases e
    · rw [rmv_ne hb] at e
      exact W'.gh b u e
  · obtain ⟨h1, o, h2, h3⟩ := W.zk s es
    have ne : s ≠ q := fun e => zq (by rw [← e]; exact es)
    refine ⟨?_, o, S'.h s o (fun q => nomatch q) h2, z.mono sm h3⟩
    rw [rmv_ne ne]
    exact S'.n s o h2 (by rw [upd_ne ne]; exact h1)
  · by_cases hb : a = q
    · rw [hb, rmv_self]
    · rw [rmv_ne hb]
      exact S'.n a o h (by rw [upd_ne hb]; exact g)
theorem xe_methOb0 [nb : NoIns B] {fs : List (Str × Fz)} {q : Addr} {y : φ} {w : φ → (β → Prop) → Prop} {pl : Sem Bool} (i : Nat) (hΓ : Γ[i]? = some (.ob q C fs)) (hN : X.N[i]? = some sx) (hv : Vis X.env.scope sx) (hns : fs.map (·.1) = ns) (hR : ∀ G vs, FV G vs fs → Rf.rep G vs y) (hc : Cls X.K C)
    (F : CleM X.prog X.w X.K X.mg X.base C m n (spP (Row.one (tyO C ns Rf)) B w)) (hr : Room n X.A) (hmn : m ∉ ns) (hd : (sx == ("__debug__" : Str)) = false := by decide) (hcd : (sx == ("__classdict__" : Str)) = false := by decide)
    (ht : eval (.Call (.Attribute (.Name sx sp) m apos) [] [] pos) X.env = (do
      let ov ← eval (.Name sx sp) X.env
      standAt apos.atName
      let (f, first) ← holding [ov] (getMethod ov m pl)
      callWith pos f first (backTo pos (starEach [] X.env)) (backToKw pos (keywordEach [] X.env))) := by rfl) :
    XE X z Γ (.Call (.Attribute (.Name sx sp) m apos) [] [] pos) B (fun k => w y k) := fun G0 H0 σ G H k Q E hw hk => by
  obtain ⟨f, fd, ps, F, hm, hb⟩ := F
  obtain ⟨ov, eo, dx, vs, rfl, r, q'⟩ := E.at_ hΓ
  have sg : Same G (upd G q (.ins C dx vs)) := same_new r.g
  obtain ⟨e1, e2⟩ := fz_split (FR.mono sg q')
  rw [hns] at e1
  have lk : List.lookup m vs = none := by rw [e1]; exact zip_none hmn
  refine ⟨_, pe_meth0 (pe_var hN hv hd hcd) hc hm F hr hb .nil pass0 ht, _, eo, q, dx, vs, rfl, r.h, lk, ?_⟩
  have W1 : Wd Z0 (upd G q (.ins C dx vs)) H := ⟨fun b u e => by
    by_cases hb : b = q
    · subst hb; rw [upd_same] at e; cases e; exact .inl r.h
    · rw [upd_ne hb] at e; exact E.wd.gh b u e, fun _ e => nomatch e⟩
  refine ⟨upd G q (.ins C dx vs), y, k, W1, ⟨.ref q, rfl, q, dx, vs.map (·.2), rfl, by rw [← e1]; exact upd_same, hR _ _ e2⟩, hw, fun G' H' v' y' W' S' r' k' => ?_⟩
  obtain ⟨W2, S2, g'⟩ := lend E.wd r.h r.g r.z W' S'
  exact hk _ H' v' y' W2 S2 (nb.ok g' r') k'
end

end Zk
/-! TLZ: zip of two or three things of any kind. -/
namespace Zk
open PySem PySem.Spec L2

inductive Ik where
  | li (a : Addr)
  | tu (a : Addr)
  | te (x : Str) (tk : Tok)
def Ik.fp : Ik → List Addr
  | .li a => [a]
  | .tu a => [a]
  | .te _ _ => []
def Ik.st (it : Addr) (i : Nat) (h : Heap) : Ik → Prop
  | .li a => h.IsListIter it a i
  | .tu a => h.IsTupleIter it a i
  | .te x t => h.IsStrIter it (strIterType x) x t i
def sgn (x : Str) : List V := x.cps.toList.map fun c => V.str ⟨#[c]⟩
def Ik.src (K : PySem.W.Frag) (xs : List V) (H : Hp) : Ik → Prop
  | .li a => SqL K H a xs
  | .tu a => SqT K H a xs
  | .te x _ => xs = sgn x
theorem Ik.at_ {k : Ik} {it : Addr} {i : Nat} {h h' : Heap} (x : k.st it i h) (e : ∀ o, h.get? it = some o → h'.get? it = some o) : k.st it i h' := by
  cases k with
  | li a => exact Heap.IsListIter.at x e
  | tu a => exact Heap.IsTupleIter.at x e
  | te y t => obtain ⟨o, ho, r⟩ := x; exact ⟨o, e _ ho, r⟩
theorem Ik.obj {k : Ik} {it : Addr} {i : Nat} {h : Heap} (x : k.st it i h) : ∃ o, h.get? it = some o ∧ ∀ v, o.data ≠ .cell v := by
  cases k with
  | li a => obtain ⟨o, e, _, d⟩ := x; exact ⟨o, e, fun v q => by rw [d] at q; cases q⟩
  | tu a => obtain ⟨o, e, _, d⟩ := x; exact ⟨o, e, fun v q => by rw [d] at q; cases q⟩
  | te y t => obtain ⟨o, e, _, d⟩ := x; exact ⟨o, e, fun v q => by rw [d] at q; cases q⟩
section
variable {X : Cx} {pins : List (Addr × Obj)} {σ : L2.St} {H : Hp} {s : Shared}
theorem Ik.inj {k : Ik} {xs ys : List V} (I : Inv X pins σ H s) (h1 : k.src X.K xs H) (h2 : k.src X.K ys H) : xs = ys := by
  cases k with
  | li a => exact I.list_inj h1 h2
  | tu a => exact I.tuple_inj h1 h2
  | te x t => exact (show xs = sgn x from h1).trans (show ys = sgn x from h2).symm
/-- what next finds -/
theorem Ik.draws {k : Ik} {it : Addr} {xs : List V} (I : Inv X pins σ H s) (h : k.src X.K xs H) (hne : ∀ a ∈ k.fp, a ≠ it) {A : Around} (hh : A.handled = none) :
    ∃ (n : Nat) (P : Nat → Value → Prop) (St : Nat → Heap → Prop), Draws X.prog X.w A it (it :: k.fp) n P St ∧ n = xs.length ∧ (∀ i u, P i u → ∃ x, xs[i]? = some x ∧ RelV x u) ∧ (∀ i h, St i h → k.st it i h) ∧ ∀ i, k.st it i s.heap → St i s.heap := by
  cases k with
  | li a =>
    obtain ⟨its, rv, p, _⟩ := I.list h
    refine ⟨_, _, _, Draws.list hh it a (hne a (by simp [Ik.fp])) its.toArray, by rw [List.size_toArray, rv.length], fun i u hu => ?_, fun i h st => st.1, fun i st => ⟨st, p.isList⟩⟩
    have hu : its[i]? = some u := by simpa using hu
    exact Paired.at_ rv hu
  | tu a =>
    obtain ⟨its, rv, p, _⟩ := I.tuple h
    refine ⟨_, _, _, Draws.tuple hh it a (hne a (by simp [Ik.fp])) its.toArray, by rw [List.size_toArray, rv.length], fun i u hu => ?_, fun i h st => st.1, fun i st => ⟨st, p⟩⟩
    have hu : its[i]? = some u := by simpa using hu
    exact Paired.at_ rv hu
  | te x t =>
    refine ⟨_, _, _, Draws.text hh it x t, ?_, fun i u ⟨c, tk, hc, hu⟩ => ?_, fun i h st => st, fun i st => st⟩
    · rw [show xs = sgn x from h, sgn, List.length_map, Array.length_toList]
    · rw [show xs = sgn x from h, sgn, List.getElem?_map, Array.getElem?_toList, hc]
      exact ⟨_, rfl, tk, hu⟩
end
/-- the two as they stand at each turn -/
def ItZ (K : PySem.W.Frag) (k1 k2 : Ik) : It :=
  ⟨fun i H => ∃ (xs ys : List V) (x y : V), k1.src K xs H ∧ k2.src K ys H ∧ xs[i]? = some x ∧ ys[i]? = some y,
    fun i H v H' => ∃ T x y, v = .ref T ∧ H T = none ∧ H' = upd H T (.tup [x, y]) ∧ (∀ xs, k1.src K xs H → xs[i]? = some x) ∧ ∀ ys, k2.src K ys H → ys[i]? = some y,
    fun i H => ∃ xs ys : List V, k1.src K xs H ∧ k2.src K ys H ∧ i ≤ xs.length ∧ i ≤ ys.length ∧ (i = xs.length ∨ i = ys.length)⟩
theorem turnZ {P : Program} {w : World} {K : PySem.W.Frag} {elts : List Expr} {kk : Nat} {tpos : Pos} {k1 k2 : Ik} {z TI TO i1 i2 : Addr} (D : ZipSep2 z TI TO i1 i2 (i1 :: k1.fp) (i2 :: k2.fp)) (n1 : ∀ a ∈ k1.fp, a ≠ i1) (n2 : ∀ a ∈ k2.fp, a ≠ i2) :
    Turn P w K (.Tuple elts kk tpos) (ItZ K k1 k2) [z, TI, TO, i1, i2] z (fun i h => IsZip h z TI TO .none ∧ IsTupOf2 h TI (.ref i1) (.ref i2) ∧ (∃ x y, IsTupOf2 h TO x y) ∧ k1.st i1 i h ∧ k2.st i2 i h) where
  mem := by simp
  obj := fun i h st c hc => by
    obtain ⟨hz, hTI, ⟨x, y, hTO⟩, h1, h2⟩ := st
    have e' : c = z ∨ c = TI ∨ c = TO ∨ c = i1 ∨ c = i2 := by simpa using hc
    rcases e' with q | q | q | q | q
    · rw [q]; exact ⟨_, hz, fun v q => nomatch q⟩
    · rw [q]; exact ⟨_, hTI, fun v q => nomatch q⟩
    · rw [q]; exact ⟨_, hTO, fun v q => nomatch q⟩
    · rw [q]; exact Ik.obj (k := k1) h1
    · rw [q]; exact Ik.obj (k := k2) h2
  keep := fun i h h' st k => by
    obtain ⟨hz, hTI, ⟨x, y, hTO⟩, h1, h2⟩ := st
    exact ⟨k z (by simp) _ hz, k TI (by simp) _ hTI, ⟨x, y, k TO (by simp) _ hTO⟩, Ik.at_ (k := k1) h1 fun o q => k i1 (by simp) o q, Ik.at_ (k := k2) h2 fun o q => k i2 (by simp) o q⟩
  item := by
    intro X hP hw hK hc i pins s σ H E I hf st hg
    subst hP hw hK
    obtain ⟨hz, hTI, ⟨x0, y0, hTO⟩, h1, h2⟩ := st
    obtain ⟨xs, ys, x, y, hqx, hqy, hx, hy⟩ := hg
    have hh : X.A.in1.handled = none := I.ok.hd hc
    obtain ⟨m1, P1, S1, D1, e1, v1, s1, t1⟩ := Ik.draws I hqx n1 hh
    obtain ⟨m2, P2, S2, D2, e2, v2, s2, t2⟩ := Ik.draws I hqy n2 hh
    have hzl : z < s.heap.objs.size := Heap.lt_size hz
    have l1 : i < m1 := by rw [e1]; exact (List.getElem?_eq_some_iff.mp hx).1
    have l2 : i < m2 := by rw [e2]; exact (List.getElem?_eq_some_iff.mp hy).1
    refine wpAny_pyNext_zipD2_item D D1 D2 hz hTI hTO (t1 i h1) (t2 i h2) l1 l2 fun u u2 h' tk p1 p2 z' TO' h1' h2' hT hsz hk => ?_
    obtain ⟨x', hx', ru⟩ := v1 i u p1
    obtain ⟨y', hy', ru2⟩ := v2 i u2 p2
    cases hx.symm.trans hx'
    cases hy.symm.trans hy'
    have h1' := s1 _ _ h1'
    have h2' := s2 _ _ h2'
    refine ⟨_, rfl, wpAny_letOwnedTupleGo_zip (s := { s with heap := h', toks := tk }) z' fun h'' z'' sb => ?_⟩
    have hT2 : h''.get? s.heap.objs.size = some { cls := .type "tuple", data := .seq #[u, u2] } := (sb.2 _ (Nat.ne_of_gt hzl)).trans hT
    have new : ObjOk X.prog X.w (upd H s.heap.objs.size (.tup [x, y])) h'' s.heap.objs.size (.tup [x, y]) :=
      ⟨by show 2 ≤ sizeLine; decide, [u, u2], .cons ru (.cons ru2 .nil), ⟨_, hT2, rfl, _, rfl⟩⟩
    have I1 : Inv X pins σ (upd H s.heap.objs.size (.tup [x, y])) { s with heap := h'', toks := tk } :=
      I.turnedNew (t' := tk) (ch := [z, TI, TO, i1, i2]) (fun c o hb q => (sb.2 c (fun q' => hb (by simp [q']))).trans (hk c o (fun q' => hb (by simp [q'])) (fun q' => hb (by simp [q'])) (fun q' => hb (by simp [q'])) (fun q' => hb (by simp [q'])) q)) hf (Nat.le_refl _) new
    refine ⟨.ref s.heap.objs.size, _, I1, rfl, ⟨_, x, y, rfl, I.hok.fresh (Nat.le_refl _), rfl, fun l hl => by rw [Ik.inj I hl hqx]; exact hx, fun l hl => by rw [Ik.inj I hl hqy]; exact hy⟩, ⟨z'', ?_, ⟨u, u2, ?_⟩, ?_, ?_⟩, fun c hcm => ?_⟩
    · exact (sb.2 _ D.TIz).trans (hk _ _ D.TIz D.TITO D.TIi1 D.TIi2 hTI)
    · exact (sb.2 _ D.TOz).trans TO'
    · exact Ik.at_ (k := k1) h1' fun o q => (sb.2 _ D.zi1.symm).trans q
    · exact Ik.at_ (k := k2) h2' fun o q => (sb.2 _ D.zi2.symm).trans q
    · have hlt : c < s.heap.objs.size := by
        have e' : c = z ∨ c = TI ∨ c = TO ∨ c = i1 ∨ c = i2 := by simpa using hcm
        rcases e' with q | q | q | q | q
        · rw [q]; exact hzl
        · rw [q]; exact Heap.lt_size hTI
        · rw [q]; exact Heap.lt_size hTO
        · rw [q]; obtain ⟨_, e1, _⟩ := Ik.obj (k := k1) h1; exact Heap.lt_size e1
        · rw [q]; obtain ⟨_, e2, _⟩ := Ik.obj (k := k2) h2; exact Heap.lt_size e2
      rw [upd_ne (Nat.ne_of_lt hlt)]
      exact (hf c hcm).1
  done := by
    intro X hP hw hK hc i pins s σ H E I hf st hg
    subst hP hw hK
    obtain ⟨hz, hTI, ⟨x0, y0, hTO⟩, h1, h2⟩ := st
    obtain ⟨xs, ys, hqx, hqy, g1, g2, hend⟩ := hg
    have hh : X.A.in1.handled = none := I.ok.hd hc
    obtain ⟨m1, P1, S1, D1, e1, v1, s1, t1⟩ := Ik.draws I hqx n1 hh
    obtain ⟨m2, P2, S2, D2, e2, v2, s2, t2⟩ := Ik.draws I hqy n2 hh
    exact wpAny_pyNext_zipD2_end D D1 D2 hz hTI hTO (t1 i h1) (t2 i h2) (by rw [e1]; exact g1) (by rw [e2]; exact g2) (by rw [e1, e2]; exact hend) fun h' tk hk => ⟨rfl, I.turnedL (t' := tk) (ch := [z, TI, TO, i1, i2]) (fun c o hb q =>
      hk c o (fun q' => hb (by simp [q'])) (fun q' => hb (by simp [q'])) (fun q' => hb (by simp [q'])) (fun q' => hb (by simp [q'])) q) hf⟩
  self := fun A i s Q E st h => wpAny_pyIter_zip st.1 h
/-- what can be zipped: a list, a tuple, a text -/
inductive Z3 where
  | l | t | s
def ZSrc (K : PySem.W.Frag) (H : Hp) (x : V) (xs : List V) : Z3 → Prop
  | .l => ∃ a, x = .ref a ∧ SqL K H a xs
  | .t => ∃ a, x = .ref a ∧ SqT K H a xs
  | .s => ∃ y, x = .str y ∧ xs = sgn y
/-- the kind of a value's iterator -/
def KOf (x : V) : Z3 → Ik → Prop
  | .l, .li a => x = .ref a
  | .t, .tu a => x = .ref a
  | .s, .te y _ => x = .str y
  | _, _ => False
section
variable {X : Cx} {pins : List (Addr × Obj)} {σ : L2.St} {H : Hp} {s : Shared}
theorem ZSrc.begins {x : V} {xs : List V} {v : Value} {t3 : Z3} (I : Inv X pins σ H s) (z : ZSrc X.K H x xs t3) (r : RelV x v) : ∃ (k : Ik) (o : Obj) (Hq : Heap → Prop), Begins v o Hq ∧ Hq s.heap ∧ KOf x t3 k ∧ (∀ a ∈ k.fp, a < s.heap.objs.size) ∧ ∀ it h', h'.get? it = some o → k.st it 0 h' := by
  cases t3 with
  | l =>
    obtain ⟨a, rfl, q⟩ := z
    cases r
    obtain ⟨its, rv, p, _⟩ := I.list q
    exact ⟨.li a, _, _, begins_list a its.toArray, p.isList, rfl, fun b hb => by
      have e : b = a := by simpa [Ik.fp] using hb
      rw [e]; exact p.lt, fun it h' e => ⟨_, e, rfl, rfl⟩⟩
  | t =>
    obtain ⟨a, rfl, q⟩ := z
    cases r
    obtain ⟨its, rv, p, _⟩ := I.tuple q
    obtain ⟨o, ho, _⟩ := id p
    exact ⟨.tu a, _, _, begins_tuple a its.toArray, p, rfl, fun b hb => by
      have e : b = a := by simpa [Ik.fp] using hb
      rw [e]; exact Heap.lt_size ho, fun it h' e => ⟨_, e, rfl, rfl⟩⟩
  | s =>
    obtain ⟨y, rfl, q⟩ := z
    obtain ⟨t, rfl⟩ := r
    exact ⟨.te y t, _, _, begins_text y t, trivial, rfl, fun b hb => by simp [Ik.fp] at hb, fun it h' e => ⟨_, e, rfl, rfl⟩⟩
end
def iZ (K : PySem.W.Frag) (t1 t2 : Z3) (ta : TA) : TI := fun σ H R => ta σ H fun vs H1 => ∃ x y xs ys, vs = [x, y] ∧ ZSrc K H1 x xs t1 ∧ ZSrc K H1 y ys t2 ∧ ∀ k1 k2, KOf x t1 k1 → KOf y t2 k2 → R (ItZ K k1 k2) H1
theorem pi_Z {X : Cx} {t1 t2 : Z3} {e e2 : Expr} {ta : TA} {p pos tpos : Pos} {elts : List Expr} {kk : Nat} (hg : Gl X "zip") (hm : X.mg "zip" = none) (ha : PA X [e, e2] ta)
    (hs : starEach [e, e2] X.env = (false, eval e X.env) :: starEach [e2] X.env := by rfl) (hpl : (backTo pos (starEach [e2] X.env)).any (·.1) = false := by rfl) :
    PI X (.Tuple elts kk tpos) (.Call (.Name "zip" p) [e, e2] [] pos) (iZ X.K t1 t2 ta) := by
  refine ⟨fun pins s σ H R I h => ?_⟩
  refine PyProof.Rows.Call_ (ld_blt I hg hm PyProof.Rows.boot_zip (PyProof.Rows.callWith_type1 (thn (ha.run pos pins s σ H _ I h) fun us s1 ⟨vs, H1, I1, r1, q1⟩ => ?_) hs hpl))
  obtain ⟨x, y, xs, ys, ex, z1, z2, q⟩ := q1
  subst ex
  cases r1 with
  | cons r rr =>
    cases rr with
    | cons r' rr =>
      cases rr
      have fresh5 : ∀ c, c ∈ [s1.heap.objs.size + 4, s1.heap.objs.size + 2, s1.heap.objs.size + 3, s1.heap.objs.size, s1.heap.objs.size + 1] → FpOk X pins H1 c := fun c hcm => by
        have e' : c = s1.heap.objs.size + 4 ∨ c = s1.heap.objs.size + 2 ∨ c = s1.heap.objs.size + 3 ∨ c = s1.heap.objs.size ∨ c = s1.heap.objs.size + 1 := by simpa using hcm
        have hle : s1.heap.objs.size ≤ c := by
          rcases e' with z | z | z | z | z
          · rw [z]; exact Nat.le_add_right _ _
          · rw [z]; exact Nat.le_add_right _ _
          · rw [z]; exact Nat.le_add_right _ _
          · rw [z]; exact Nat.le_refl _
          · rw [z]; exact Nat.le_add_right _ _
        exact I1.fpOk hle (I1.hok.fresh hle)
      obtain ⟨k1, o1, H1q, B1, b1, ko1, f1, st1⟩ := z1.begins I1 r
      obtain ⟨k2, o2, H2q, B2, b2, ko2, f2, st2⟩ := z2.begins I1 r'
      refine zip_begins2 B1 B2 b1 b2 fun h' hz hTI hTO h1 h2 hsz hk => wpAny_pyIter_zip hz ?_
      have I2 : Inv X pins σ H1 { s1 with heap := h' } := I1.kept (t' := s1.toks) hk
      exact ⟨s1.heap.objs.size + 4, [s1.heap.objs.size + 4, s1.heap.objs.size + 2, s1.heap.objs.size + 3, s1.heap.objs.size, s1.heap.objs.size + 1], _, _, H1, rfl, I2,
        turnZ (zip_sep2 f1 f2) (fun a ha => Nat.ne_of_lt (f1 a ha)) (fun a ha => Nat.ne_of_lt (Nat.lt_succ_of_lt (f2 a ha))), ⟨hz, hTI, ⟨_, _, hTO⟩, st1 _ _ h1, st2 _ _ h2⟩, fresh5, q k1 k2 ko1 ko2⟩
/-! ### as rules -/
/-- what a kind of data is zipped as -/
class ZTy {α β : Type} (A : Ty α) (B : outParam (Ty β)) (f : outParam (α → List β)) (t3 : outParam Z3) where
  ok : ∀ {z : Zs} {G H : Hp} {v : V} {x : α}, Wd z G H → A.rep G v x → ∃ xs, (∀ (K : PySem.W.Frag), ZSrc K H v xs t3) ∧ (∀ (K : PySem.W.Frag) (G' H' : Hp) (k : Ik), Wd z G' H' → Same G G' → KOf v t3 k → k.src K xs H') ∧ Paired (B.rep G) xs (f x)
section
variable {α β : Type} {A : Ty α} {B : Ty β}
theorem pair_signs {G : Hp} {s : Str} (hs : sOk s = true) : Paired (tyS.rep G) (sgn s) (signs s) := by
  unfold sgn signs
  have : ∀ l : List Nat, (∀ c ∈ l, c < 0x110000) → Paired (tyS.rep G) (l.map fun c => V.str ⟨#[c]⟩) (l.map fun c => (⟨#[c]⟩ : Str)) := by
    intro l
    induction l with
    | nil => exact fun _ => .nil
    | cons c l ih => exact fun h => .cons ⟨rfl, sok_iff.mpr fun d hd => by
        have hd : d ∈ [c] := hd
        rw [List.mem_singleton.mp hd]
        exact h c (List.mem_cons_self ..)⟩ (ih fun d hd => h d (List.mem_cons_of_mem _ hd))
  exact this _ (sok_iff.mp hs)
instance : ZTy (tyL A) A id .l := ⟨fun W ⟨q, vs, e, hq, r⟩ => by
  subst e
  refine ⟨vs, fun K => ⟨q, rfl, SqL.of (W.of hq nodl)⟩, fun K G' H' k W' s hk => ?_, r⟩
  cases k with
  | li a => cases (show V.ref q = V.ref a from hk); exact SqL.of (W'.of (s _ _ hq) nodl)
  | tu a => exact (show False from hk).elim
  | te y t => exact (show False from hk).elim⟩
instance : ZTy (tyP A) A id .t := ⟨fun W ⟨q, vs, e, hq, r⟩ => by
  subst e
  refine ⟨vs, fun K => ⟨q, rfl, SqT.of (W.of hq nodt)⟩, fun K G' H' k W' s hk => ?_, r⟩
  cases k with
  | tu a => cases (show V.ref q = V.ref a from hk); exact SqT.of (W'.of (s _ _ hq) nodt)
  | li a => exact (show False from hk).elim
  | te y t => exact (show False from hk).elim⟩
instance : ZTy tyS tyS signs .s := ⟨fun {_ _ _ _ x} W ⟨e, hs⟩ => by
  subst e
  refine ⟨sgn x, fun K => ⟨x, rfl, rfl⟩, fun K G' H' k W' s hk => ?_, pair_signs hs⟩
  cases k with
  | te y t => cases (show V.str x = V.str y from hk); exact rfl
  | li a => exact (show False from hk).elim
  | tu a => exact (show False from hk).elim⟩
end
theorem Paired.zip_at {α β : Type} {F : V → α → Prop} {xs : List V} {l : List α} (r : Paired F xs l) {i : Nat} {x : α} (h : l[i]? = some x) : ∃ v, xs[i]? = some v ∧ F v x := Paired.at_ r h
section
variable {X : Cx} {z : Zs} {Γ : List Sl} {a b : Expr} {α β γ δ : Type} {A : Ty α} {B : Ty β} {C : Ty γ} {D : Ty δ} {f : α → List γ} {g : β → List δ} {t1 t2 : Z3} {pos p tpos : Pos} {wa : (α → Prop) → Prop} {wb : (β → Prop) → Prop} {elts : List Expr} {kk : Nat}
theorem it_Z {K : PySem.W.Frag} {G : Hp} {k1 k2 : Ik} {xs ys : List V} {l : List γ} {m : List δ} (h1 : ∀ G' H', Wd z G' H' → Same G G' → k1.src K xs H') (h2 : ∀ G' H', Wd z G' H' → Same G G' → k2.src K ys H') (r1 : Paired (C.rep G) xs l) (r2 : Paired (D.rep G) ys m) :
    ItOk z G (ItZ K k1 k2) (tyT (Row.cons C (Row.one D))) (l.zip m) where
  go := fun i x G2 H2 W s h => by
    rw [List.getElem?_zip_eq_some] at h
    obtain ⟨v, hv, _⟩ := Paired.at_ r1 h.1
    obtain ⟨u, hu, _⟩ := Paired.at_ r2 h.2
    exact ⟨xs, ys, v, u, h1 _ _ W s, h2 _ _ W s, hv, hu⟩
  yld := fun i x G2 H2 v H3 W s h ⟨T, a, b, ev, hT, e3, y1, y2⟩ => by
    rw [List.getElem?_zip_eq_some] at h
    obtain ⟨v1, hv, q1⟩ := Paired.at_ r1 h.1
    obtain ⟨v2, hu, q2⟩ := Paired.at_ r2 h.2
    cases hv.symm.trans (y1 _ (h1 _ _ W s))
    cases hu.symm.trans (y2 _ (h2 _ _ W s))
    subst ev e3
    have sm : Same G (upd G2 T (.tup [a, b])) := s.trans (same_new (W.gh.free hT))
    exact ⟨upd G2 T (.tup [a, b]), W.new hT, Stp.new W.gh hT, T, _, rfl, upd_same, a, [b], rfl, C.mono sm q1, b, rfl, D.mono sm q2⟩
  stop := fun G2 H2 W s => by
    refine ⟨xs, ys, h1 _ _ W s, h2 _ _ W s, ?_⟩
    rw [List.length_zip, r1.length, r2.length]
    omega
theorem xi_zip [za : ZTy A C f t1] [zb : ZTy B D g t2] (hm : X.mg "zip" = none) (ha : XE X z Γ a A wa) (hb : XE X z Γ b B wb) (hg : Gl X "zip" := by rfl) (hs : starEach (a :: [b]) X.env = (false, eval a X.env) :: starEach [b] X.env := by rfl) (hs2 : starEach (b :: []) X.env = (false, eval b X.env) :: starEach [] X.env := by rfl)
    (hpl : (backTo pos (starEach [b] X.env)).any (·.1) = false := by rfl) :
    XI X z Γ (.Tuple elts kk tpos) (.Call (.Name "zip" p) [a, b] [] pos) (tyT (Row.cons C (Row.one D))) (fun k => wa fun x => wb fun y => k ((f x).zip (g y))) := fun G0 H0 σ G H k R E hw hk =>
  ⟨_, pi_Z (t1 := t1) (t2 := t2) hg hm (pa_cons re (pa_cons re pa_nil hs2) hs) hs hpl, ha G0 H0 σ G H _ _ E hw fun G1 H1 v x W1 S1 r1 q1 => hb G0 H0 σ G1 H1 _ _ (E.step W1 S1) q1 fun G2 H2 u y W2 S2 r2 q2 => by
    obtain ⟨xs, z1, k1, p1⟩ := za.ok W2 (A.mono S2.g r1)
    obtain ⟨ys, z2, k2, p2⟩ := zb.ok W2 r2
    exact ⟨v, u, xs, ys, rfl, z1 _, z2 _, fun i1 i2 h1 h2 => hk G2 H2 _ _ W2 (S1.trans S2) (it_Z (fun G' H' W s => k1 _ G' H' i1 W s h1) (fun G' H' W s => k2 _ G' H' i2 W s h2) p1 p2) q2⟩⟩
end
end Zk
/-! TL21: sorted of data of any kind; tuples joined; lengths of rows. -/
namespace Zk
open PySem PySem.Spec L2

/-! ### sorted -/
section
variable {X : Cx} {α : Type}
/-- a list of data, sorted -/
theorem cr_sortedA (enc : α → PyData) (dep : Nat) (hu : X.A.units + 2 + dep < cLine) (hal : ∀ x y, PySem.W.alike (enc x) (enc y) = true) : CallR X (.builtin "sorted") (fun vs H Q => ∃ (a : Addr) (ps : List (V × α)), vs = [V.ref a] ∧ SqL X.K H a (ps.map (·.1)) ∧ (∀ p ∈ ps, Dp X.K H p.1 (enc p.2)) ∧
    ((∀ p ∈ ps, ∃ y r, enc p.2 = .tuple (y :: r)) ∨ ∀ p ∈ ps, enc p.2 ≠ .none ∧ ∀ xs, enc p.2 ≠ .tuple xs) ∧ (∀ p ∈ ps, (enc p.2).depth ≤ dep) ∧
    ∀ q, H q = none → Q (.ref q) (upd H q (.lst ((ps.mergeSort fun a b => PySem.W.dataLe false enc a.2 b.2).map (·.1))))) := by
  intro pins s σ H vs us Q I r h
  obtain ⟨a, ps, rfl, hs, hd, hk, hdep, q⟩ := h
  obtain ⟨its, rv, hl, hz⟩ := I.list hs
  rw [Vals.ref1 r]
  have e : PySem.W.EachIs (fun (v : Value) (p : V × α) => RelV p.1 v) its ps := by
    clear hl hs hz hd hdep q hk
    have : ∀ (ps : List (V × α)) (its : List Value), Vals (ps.map (·.1)) its → PySem.W.EachIs (fun (v : Value) (p : V × α) => RelV p.1 v) its ps := by
      intro ps
      induction ps with
      | nil => intro its h; cases h; exact .nil
      | cons p ps ih => intro its h; cases h with
        | cons r t => exact .cons r (ih _ t)
    exact this ps its rv
  have er : PySem.W.EachIs (fun (v : Value) (p : V × α) => ∃ as, Reads s.heap v (enc p.2) as) its ps := by
    have : ∀ {its : List Value} {ps : List (V × α)}, PySem.W.EachIs (fun (v : Value) (p : V × α) => RelV p.1 v) its ps → (∀ p ∈ ps, Dp X.K H p.1 (enc p.2)) → PySem.W.EachIs (fun (v : Value) (p : V × α) => ∃ as, Reads s.heap v (enc p.2) as) its ps := by
      intro its ps e
      induction e with
      | nil => exact fun _ => .nil
      | cons r _ ih => exact fun h => .cons (Dp.reads I _ _ _ (h _ (List.mem_cons_self ..)) r) (ih fun p hp => h p (List.mem_cons_of_mem _ hp))
    exact this e hd
  have hk' : PySem.W.Sortable (ps.map fun p => enc p.2) := by
    rcases hk with h | h
    · exact .inl fun d hd => by obtain ⟨p, hp, rfl⟩ := List.mem_map.mp hd; exact h p hp
    · exact .inr fun d hd => by obtain ⟨p, hp, rfl⟩ := List.mem_map.mp hd; exact h p hp
  refine PySem.W.sorted_data (enc := fun p : V × α => enc p.2) (R := fun (v : Value) (p : V × α) => RelV p.1 v) hl.isList e er (PySem.W.AllAlike.of fun _ _ => hal _ _) hk' (by rw [List.length_map] at hz; exact hz) (fun p hp => by have := hdep p hp; omega) fun out hlen eo => ?_
  obtain ⟨ep, he'⟩ := PyProof.Rows.sortedAll_at s.heap its out.toArray
  have vo : Vals ((ps.mergeSort fun a b => PySem.W.dataLe false enc a.2 b.2).map (·.1)) out := by
    have : ∀ {its : List Value} {ps : List (V × α)}, PySem.W.EachIs (fun (v : Value) (p : V × α) => RelV p.1 v) its ps → Vals (ps.map (·.1)) its := by
      intro its ps e
      induction e with
      | nil => exact .nil
      | cons r _ ih => exact .cons r ih
    exact this eo
  have hl2 : ((ps.mergeSort fun a b => PySem.W.dataLe false enc a.2 b.2).map (·.1)).length ≤ sizeLine := by
    rw [List.length_map, List.length_mergeSort]
    rw [List.length_map] at hz
    exact hz
  exact ⟨.ref _, upd H (s.heap.objs.size + 1) (.lst ((ps.mergeSort fun a b => PySem.W.dataLe false enc a.2 b.2).map (·.1))), I.laid (t' := s.toks) (fun _ _ => PyProof.Rows.sortedAll_old) (Nat.le_succ _) ⟨hl2, out, ep, vo, he'⟩, rfl, q _ (I.hok.fresh (Nat.le_succ _))⟩
end
/-- data that can be sorted -/
class OrdTy {α : Type} (A : Ty α) extends DpTy A where
  lt : α → α → Bool
  ok : α → Prop
  al : ∀ x y, PySem.W.alike (enc x) (enc y) = true
  ltd : ∀ x y, PySem.W.dataLt (enc x) (enc y) = lt x y
  srt : (∀ x, ok x → ∃ y r, enc x = .tuple (y :: r)) ∨ ∀ x, enc x ≠ .none ∧ ∀ xs, enc x ≠ .tuple xs
class OrdRow {ρ : Type} (R : Row ρ) extends DpRow R where
  lt : ρ → ρ → Bool
  al : ∀ x y, PySem.W.alikeAll (enc x) (enc y) = true
  ltd : ∀ x y, PyProof.Rows.lexLt PyProof.Rows.itemOrd (PySem.W.keyToksAll (enc x)) (PySem.W.keyToksAll (enc y)) = lt x y
  ne : ∀ x, ∃ y r, enc x = y :: r
/-- in order, equal ones as they stood -/
def sortB {α : Type} (lt : α → α → Bool) (xs : List α) : List α := xs.mergeSort fun a b => !lt b a
def ltS (a b : Str) : Bool := decide (a.cps.toList < b.cps.toList)
instance : OrdTy tyI where
  lt := fun x y => decide (x < y)
  ok := fun _ => True
  al := fun _ _ => rfl
  ltd := PySem.W.dataLt_int
  srt := .inr fun x => ⟨nofun, nofun⟩
instance : OrdTy tyS where
  lt := ltS
  ok := fun _ => True
  al := fun _ _ => rfl
  ltd := PySem.W.dataLt_str
  srt := .inr fun x => ⟨nofun, nofun⟩
section
variable {α ρ : Type} {A : Ty α} {R : Row ρ}
instance [DecidableEq α] [d : OrdTy A] : OrdRow (Row.one A) where
  lt := fun x y => if x = y then false else d.lt x y
  al := fun x y => by
    show PySem.W.alikeAll [d.enc x] [d.enc y] = true
    simp [PySem.W.alikeAll, d.al]
  ltd := fun x y => by
    show PyProof.Rows.lexLt PyProof.Rows.itemOrd (PySem.W.keyToksAll [d.enc x]) (PySem.W.keyToksAll [d.enc y]) = _
    rw [PySem.W.dataLt_cons (d.al x y), ev_dec, d.ltd]
    by_cases h : x = y
    · rw [decide_eq_true h]; simp [h]; rfl
    · rw [decide_eq_false h]; simp [h]
  ne := fun x => ⟨_, _, rfl⟩
instance [DecidableEq α] [d : OrdTy A] [r : OrdRow R] : OrdRow (Row.cons A R) where
  lt := fun x y => if x.1 = y.1 then r.lt x.2 y.2 else d.lt x.1 y.1
  al := fun x y => by
    show PySem.W.alikeAll (d.enc x.1 :: r.enc x.2) (d.enc y.1 :: r.enc y.2) = true
    simp [PySem.W.alikeAll, d.al, r.al]
  ltd := fun x y => by
    show PyProof.Rows.lexLt PyProof.Rows.itemOrd (PySem.W.keyToksAll (d.enc x.1 :: r.enc x.2)) (PySem.W.keyToksAll (d.enc y.1 :: r.enc y.2)) = _
    rw [PySem.W.dataLt_cons (d.al x.1 y.1), ev_dec, d.ltd, r.ltd]
    by_cases h : x.1 = y.1
    · rw [decide_eq_true h]; simp [h]
    · rw [decide_eq_false h]; simp [h]
  ne := fun x => ⟨_, _, rfl⟩
instance [r : OrdRow R] : OrdTy (tyT R) where
  lt := r.lt
  ok := fun _ => True
  al := fun x y => by
    show PySem.W.alike (.tuple (r.enc x)) (.tuple (r.enc y)) = true
    rw [PySem.W.alike]; exact r.al x y
  ltd := fun x y => by
    show PySem.W.dataLt (.tuple (r.enc x)) (.tuple (r.enc y)) = _
    rw [PySem.W.dataLt_tuple, r.ltd]
  srt := .inl fun x _ => by
    obtain ⟨y, t, e⟩ := r.ne x
    exact ⟨y, t, by show PyData.tuple (r.enc x) = _; rw [e]⟩
def lexB {α : Type} [DecidableEq α] (lt : α → α → Bool) : List α → List α → Bool
  | [], [] => false
  | [], _ :: _ => true
  | _ :: _, [] => false
  | x :: xs, y :: ys => if x = y then lexB lt xs ys else lt x y
theorem alikeAll_map [d : OrdTy A] : ∀ xs ys : List α, PySem.W.alikeAll (xs.map d.enc) (ys.map d.enc) = true
  | [], _ => by simp [PySem.W.alikeAll]
  | _ :: _, [] => by simp [PySem.W.alikeAll]
  | x :: xs, y :: ys => by
    rw [List.map_cons, List.map_cons, PySem.W.alikeAll, d.al, alikeAll_map xs ys]
    rfl
theorem lex_map [DecidableEq α] [d : OrdTy A] : ∀ xs ys : List α, PyProof.Rows.lexLt PyProof.Rows.itemOrd (PySem.W.keyToksAll (xs.map d.enc)) (PySem.W.keyToksAll (ys.map d.enc)) = lexB d.lt xs ys
  | [], [] => by simp [PySem.W.keyToksAll, lexB]; rfl
  | [], y :: ys => by simp [PySem.W.keyToksAll, lexB]; rfl
  | x :: xs, [] => by simp [PySem.W.keyToksAll, lexB]; rfl
  | x :: xs, y :: ys => by
    rw [List.map_cons, List.map_cons, PySem.W.dataLt_cons (d.al x y), ev_dec, d.ltd, lex_map xs ys, lexB]
    by_cases h : x = y
    · rw [decide_eq_true h]; simp [h]
    · rw [decide_eq_false h]; simp [h]
instance [DecidableEq α] [d : OrdTy A] : OrdTy (tyP A) where
  lt := lexB d.lt
  ok := fun x => x ≠ []
  al := fun x y => by
    show PySem.W.alike (.tuple (x.map d.enc)) (.tuple (y.map d.enc)) = true
    rw [PySem.W.alike]; exact alikeAll_map x y
  ltd := fun x y => by
    show PySem.W.dataLt (.tuple (x.map d.enc)) (.tuple (y.map d.enc)) = _
    rw [PySem.W.dataLt_tuple, lex_map]
  srt := .inl fun x h => by
    cases x with
    | nil => exact absurd rfl h
    | cons y t => exact ⟨d.enc y, t.map d.enc, rfl⟩
end
/-- kinds all of whose values can be sorted -/
class OrdAll {α : Type} (A : Ty α) [d : OrdTy A] : Prop where
  ok : ∀ x, d.ok x
instance : OrdAll tyI := ⟨fun _ => trivial⟩
instance : OrdAll tyS := ⟨fun _ => trivial⟩
instance {ρ : Type} {R : Row ρ} [OrdRow R] : OrdAll (tyT R) := ⟨fun _ => trivial⟩
section
variable {X : Cx} {z : Zs} {Γ : List Sl} {a b c e o : Expr} {es : List Expr} {α β γ ρ φ : Type} {A : Ty α} {B : Ty β} {R : Row ρ} {pos p p2 apos mpos : Pos} {x m : Str}
  {wl wl2 : (List α → Prop) → Prop} {wr : (ρ → Prop) → Prop}
theorem zip_mem {F : V → α → Prop} {vs : List V} {xs : List α} (r : Paired F vs xs) : ∀ p ∈ vs.zip xs, p.2 ∈ xs ∧ F p.1 p.2 := by
  induction r with
  | nil => intro p hp; simp at hp
  | cons h _ ih =>
    intro p hp
    rcases List.mem_cons.mp (show p ∈ (_, _) :: List.zip _ _ from hp) with e | e
    · rw [e]; exact ⟨List.mem_cons_self .., h⟩
    · obtain ⟨a, b⟩ := ih p e
      exact ⟨List.mem_cons_of_mem _ a, b⟩
theorem sort_pairs [d : OrdTy A] {G : Hp} {vs : List V} {xs : List α} (r : Paired (A.rep G) vs xs) :
    Paired (A.rep G) (((vs.zip xs).mergeSort fun a b => PySem.W.dataLe false d.enc a.2 b.2).map (·.1)) (sortB d.lt xs) := by
  have e2 : ((vs.zip xs).mergeSort fun a b => PySem.W.dataLe false d.enc a.2 b.2).map (·.2) = sortB d.lt xs := by
    unfold sortB
    rw [PySem.W.sort_maps (s := fun a b => !d.lt b a) (fun p : V × α => p.2) (fun p _ q _ => by
      rw [PySem.W.dataLe_eq]
      show (!PySem.W.dataLt (d.enc q.2) (d.enc p.2)) = _
      rw [d.ltd])]
    congr 1
    exact List.map_snd_zip (Nat.le_of_eq (Paired.length r).symm)
  rw [← e2]
  have : ∀ l : List (V × α), (∀ p ∈ l, A.rep G p.1 p.2) → Paired (A.rep G) (l.map (·.1)) (l.map (·.2)) := by
    intro l
    induction l with
    | nil => exact fun _ => .nil
    | cons p l ih => exact fun h => .cons (h p (List.mem_cons_self ..)) (ih fun q hq => h q (List.mem_cons_of_mem _ hq))
  exact this _ fun p hp => (zip_mem r p ((List.mergeSort_perm _ _).mem_iff.mp hp)).2
/-- sorted(xs) -/
theorem xf_sortA [d : OrdTy A] (hm : X.mg "sorted" = none) (hu : X.A.units + 64 < cLine) (h : XL X z Γ a A wl) (hd : d.dep ≤ 60 := by exact Nat.le_of_ble_eq_true rfl) (hg : Gl X "sorted" := by rfl) (hs : starEach (a :: []) X.env = (false, eval a X.env) :: starEach [] X.env := by rfl) :
    XF X z Γ (.Call (.Name "sorted" p) [a] [] pos) A (fun k => wl fun xs => (∀ x ∈ xs, d.ok x) ∧ k (sortB d.lt xs)) := fun G0 H0 σ G H k Q E hw hk =>
  ⟨_, pe_callB (cr_sortedA d.enc d.dep (by omega) d.al) hg hm (by decide +kernel) (pa_cons re pa_nil hs) (by decide) (by decide) hs rfl, h G0 H0 σ G H _ _ E hw fun G1 H1 q vs xs W1 S1 sq r ⟨hok, h1⟩ => by
    have hz := Paired.length r
    have e1 : (vs.zip xs).map (·.1) = vs := List.map_fst_zip (Nat.le_of_eq hz)
    have mem := zip_mem r
    refine ⟨q, vs.zip xs, rfl, by rw [e1]; exact SqL.of sq.r, fun p hp => (d.dp W1 (mem p hp).2).1, ?_, fun p hp => d.le _, fun q' nq => ?_⟩
    · rcases d.srt with h | h
      · exact .inl fun p hp => h _ (hok _ (mem p hp).1)
      · exact .inr fun p hp => h _
    · exact xf_last W1 S1 (sort_pairs r) h1 hk q' nq⟩
theorem xf_sortT [d : OrdTy A] [o : OrdAll A] (hm : X.mg "sorted" = none) (hu : X.A.units + 64 < cLine) (h : XL X z Γ a A wl) (hd : d.dep ≤ 60 := by exact Nat.le_of_ble_eq_true rfl) (hg : Gl X "sorted" := by rfl) (hs : starEach (a :: []) X.env = (false, eval a X.env) :: starEach [] X.env := by rfl) :
    XF X z Γ (.Call (.Name "sorted" p) [a] [] pos) A (fun k => wl fun xs => k (sortB d.lt xs)) := fun G0 H0 σ G H k Q E hw hk =>
  xf_sortA hm hu (wl := fun k => wl k) h hd hg hs G0 H0 σ G H k Q E (by
    refine (?_ : (fun k => wl fun xs => (∀ x ∈ xs, d.ok x) ∧ k (sortB d.lt xs)) k)
    have e : (fun xs => (∀ x ∈ xs, d.ok x) ∧ k (sortB d.lt xs)) = fun xs => k (sortB d.lt xs) := by
      funext xs
      exact propext ⟨fun h => h.2, fun h => ⟨fun x _ => o.ok x, h⟩⟩
    show wl (fun xs => (∀ x ∈ xs, d.ok x) ∧ k (sortB d.lt xs))
    rw [e]
    exact hw) hk
/-! ### tuples -/
theorem xe_catP {wa wb : (List α → Prop) → Prop} (ha : XE X z Γ a (tyP A) wa) (hb : XE X z Γ b (tyP A) wb) : XE X z Γ (.BinOp a .Add b pos) (tyP A) (fun k => wa fun xs => wb fun ys => xs.length + ys.length ≤ sizeLine ∧ k (xs ++ ys)) :=
  xe_op (A := tyP A) (B := tyP A) (C := tyP A) (w2 := fun xs ys k => xs.length + ys.length ≤ sizeLine ∧ k (xs ++ ys)) op_catA (fun G H v u x y k Q W ⟨q1, vs, e1, h1, r1⟩ ⟨q2, us, e2, h2, r2⟩ hw hk => by
    have l1 := Paired.length r1
    have l2 := Paired.length r2
    refine ⟨q1, q2, vs, us, e1, e2, SqT.of (W.of h1 nodt), SqT.of (W.of h2 nodt), by rw [l1, l2]; exact hw.1, fun e => ?_, fun _ e => ?_, fun _ _ q nq => ?_⟩
    · subst e
      cases r1
      exact hk G H _ _ W (Stp.refl _ _ _) ⟨q2, us, rfl, h2, r2⟩ hw.2
    · subst e
      cases r2
      exact hk G H _ _ W (Stp.refl _ _ _) ⟨q1, vs, rfl, h1, r1⟩ (by have := hw.2; rwa [List.append_nil] at this)
    · have sm : Same G (upd G q (.tup (vs ++ us))) := same_new (W.gh.free nq)
      exact hk _ _ _ _ (W.new nq) (Stp.new W.gh nq) ⟨q, vs ++ us, rfl, upd_same, Paired.app (Paired.mono (fun _ _ => A.mono sm) r1) (Paired.mono (fun _ _ => A.mono sm) r2)⟩ hw.2) ha hb
theorem xe_lenT (hm : X.mg "len" = none) (h : XE X z Γ a (tyT R) wr) (hg : Gl X "len" := by rfl) (hs : starEach (a :: []) X.env = (false, eval a X.env) :: starEach [] X.env := by rfl) :
    XE X z Γ (.Call (.Name "len" p) [a] [] pos) tyI (fun k => wr fun _ => k (R.n : Int)) := fun G0 H0 σ G H k Q E hw hk =>
  ⟨_, pe_callB call_len_seq hg hm (by decide +kernel) (pa_cons re pa_nil hs) (by decide) (by decide) hs rfl, h G0 H0 σ G H _ _ E hw fun G1 H1 v x W1 S1 ⟨q, vs, e, hq, r⟩ h1 =>
    ⟨q, vs, by rw [e], .inr (SqT.of (W1.of hq nodt)), hk G1 H1 _ _ W1 S1 (by rw [R.len r]; rfl) h1⟩⟩
end
/-! ### facts of the head -/
def nekB (K : PySem.W.Frag) (x : Str) : Bool := He.eqO (PySem.W.findIn K (.ref (He.ga K x)) "__ne__") (some (some (.builtin "object.__ne__"))) && decide (PySem.W.mroIn K (He.ga K x) (.type "object") = some true)
theorem nek_ok {K : PySem.W.Frag} {x : Str} (h : nekB K x = true) : NeK K (He.ga K x) := by
  unfold nekB at h
  obtain ⟨h1, h2⟩ := He.ba h
  exact ⟨He.eqO_ok h1, of_decide_eq_true h2⟩
end Zk
/-! TL22: dicts walked: locked while the loop runs. -/
namespace Zk
open PySem PySem.Spec L2

/-! ### one statement -/
def RSt (X : Cx) (st : Stmt) : TS := fun D σ H => ∃ t, PS X st t ∧ t D σ H
theorem rst {X : Cx} {st : Stmt} : PS X st (RSt X st) := ⟨fun pins s σ H D I ⟨_, hp, h⟩ => hp.run pins s σ H D I h⟩

/-! ### a dict locked -/
section
variable {z : Zs} {G0 H0 G H G' H' : Hp} {σ σ' : L2.St} {Γ Γ' : List Sl} {a : Addr} {ks : List (Key × V)} {od : Obj}
theorem Own.ne {l : Addr} {u w : HO} (h : Own z H0 G H l u) (e : G a = some w) : l ≠ a := fun q => by
  have := h.g
  rw [q, e] at this
  cases this
theorem SlOk.relock {S : Sl} {o : Option V} {H1 H2 : Hp} (h : SlOk z H0 G H o S) (e : G a = some (.dK ks)) (hh : ∀ b, b ≠ a → H1 b = H b) (h0 : ∀ b, b ≠ a → H2 b = H0 b) : SlOk z H2 G H1 o S := by
  have mv : ∀ {l : Addr} {u : HO}, Own z H0 G H l u → Own z H2 G H1 l u := fun {l u} q => ⟨q.g, q.z, by rw [h0 l (q.ne e)]; exact q.h0, by rw [hh l (q.ne e)]; exact q.h⟩
  cases S with
  | no => trivial
  | fz A x => exact h
  | ml A xs => obtain ⟨l, vs, e, r, p⟩ := h; exact ⟨l, vs, e, mv r, p⟩
  | md A xs => obtain ⟨l, vs, e, r, p⟩ := h; exact ⟨l, vs, e, mv r, p⟩
  | st => exact h
  | ob p C fs => obtain ⟨dx, vs, e, r, q⟩ := h; exact ⟨dx, vs, e, mv r, q⟩
  | mx p R x => obtain ⟨vs, e, r, q⟩ := h; exact ⟨vs, e, mv r, q⟩
  | rg R R' n c A x => obtain ⟨v, e, r, k, q, f⟩ := h; exact ⟨v, e, r, k, fun a u e => mv (q a u e), f⟩
theorem Wd.nez (W : Wd z G H) {u : HO} (e : G a = some u) : z.at_ ≠ some a := fun q => by
  obtain ⟨h, _⟩ := W.zk a q
  rw [h] at e
  cases e
theorem Ev.lock (E : Ev z G0 H0 G H σ Γ) (e : G a = some (.dK ks)) : Ev z (upd G0 a (.dK ks)) (upd H0 a (.frz od (.dK ks))) G (upd H a (.frz od (.dK ks))) σ Γ := by
  refine ⟨⟨fun b u h => ?_, fun s hs => ?_⟩, ⟨fun b u h => ?_, fun b o hz h => ?_, fun b o h g => ?_, fun b o h => ?_⟩, E.len, fun i S o h1 h2 => (E.sl i S o h1 h2).relock e (fun b hb => upd_ne hb) (fun b hb => upd_ne hb), E.ap⟩
  · by_cases hb : b = a
    · subst hb
      rw [e] at h
      cases h
      exact .inr ⟨od, ks, rfl, upd_same⟩
    · rw [upd_ne hb]; exact E.wd.gh b u h
  · obtain ⟨h1, o, h2, h3⟩ := E.wd.zk s hs
    refine ⟨h1, o, ?_, h3⟩
    rw [upd_ne (fun q => E.wd.nez e (by rw [← q]; exact hs))]
    exact h2
  · by_cases hb : b = a
    · subst hb
      rw [upd_same] at h
      cases h
      exact e
    · rw [upd_ne hb] at h; exact E.base.g b u h
  · by_cases hb : b = a
    · subst hb
      rw [upd_same] at h ⊢
      exact h
    · rw [upd_ne hb] at h ⊢; exact E.base.h b o hz h
  · by_cases hb : b = a
    · subst hb
      rw [upd_same] at g
      cases g
    · rw [upd_ne hb] at h g; exact E.base.n b o h g
  · by_cases hb : b = a
    · subst hb
      exact ⟨_, upd_same⟩
    · rw [upd_ne hb] at h ⊢; exact E.base.t b o h
theorem Ev.unlock (E0 : Ev z G0 H0 G H σ Γ) (e : G a = some (.dK ks)) (eh : H a = some (.dK ks)) (E : Ev z (upd G0 a (.dK ks)) (upd H0 a (.frz od (.dK ks))) G' H' σ' Γ') :
    H' a = some (.frz od (.dK ks)) ∧ Ev z G0 H0 G' (upd H' a (.dK ks)) σ' Γ' := by
  have ga : G' a = some (.dK ks) := E.base.g a _ upd_same
  have za : z.at_ ≠ some a := E.wd.nez ga
  refine ⟨E.base.h a _ za upd_same, ⟨fun b u h => ?_, fun s hs => ?_⟩, ⟨fun b u h => ?_, fun b o hz h => ?_, fun b o h g => ?_, fun b o h => ?_⟩, E.len, fun i S o h1 h2 => (E.sl i S o h1 h2).relock ga (fun b hb => upd_ne hb) (fun b hb => (upd_ne hb).symm), E.ap⟩
  · by_cases hb : b = a
    · subst hb
      rw [ga] at h
      cases h
      exact .inl upd_same
    · rw [upd_ne hb]; exact E.wd.gh b u h
  · obtain ⟨h1, o, h2, h3⟩ := E.wd.zk s hs
    refine ⟨h1, o, ?_, h3⟩
    rw [upd_ne (fun q => za (by rw [← q]; exact hs))]
    exact h2
  · by_cases hb : b = a
    · subst hb
      have := E0.base.g b u h
      rw [e] at this
      cases this
      exact ga
    · exact E.base.g b u (by rw [upd_ne hb]; exact h)
  · by_cases hb : b = a
    · subst hb
      have := E0.base.h b o hz h
      rw [eh] at this
      cases this
      exact upd_same
    · rw [upd_ne hb]; exact E.base.h b o hz (by rw [upd_ne hb]; exact h)
  · by_cases hb : b = a
    · subst hb
      have := E0.base.n b o h g
      rw [e] at this
      cases this
    · exact E.base.n b o (by rw [upd_ne hb]; exact h) (by rw [upd_ne hb]; exact g)
  · by_cases hb : b = a
    · subst hb
      exact ⟨_, upd_same⟩
    · obtain ⟨o', q⟩ := E.base.t b o (by rw [upd_ne hb]; exact h)
      exact ⟨o', by rw [upd_ne hb]; exact q⟩
end

section
variable {z : Zs} {G0 H0 G H G' H' : Hp} {σ σ' : L2.St} {Γ Γ' : List Sl} {a : Addr} {ks : List (Key × V)} {od : Obj}
theorem Ev.keep (E0 : Ev z G0 H0 G H σ Γ) (e : G a = some (.dK ks)) (eh : H a = some (.frz od (.dK ks))) (E : Ev z (upd G0 a (.dK ks)) (upd H0 a (.frz od (.dK ks))) G' H' σ' Γ') :
    Ev z G0 H0 G' H' σ' Γ' := by
  have ga : G' a = some (.dK ks) := E.base.g a _ upd_same
  have za : z.at_ ≠ some a := E.wd.nez ga
  have ha : H' a = some (.frz od (.dK ks)) := E.base.h a _ za upd_same
  refine ⟨E.wd, ⟨fun b u h => ?_, fun b o hz h => ?_, fun b o h g => ?_, fun b o h => ?_⟩, E.len, fun i S o h1 h2 => (E.sl i S o h1 h2).relock ga (fun b hb => rfl) (fun b hb => (upd_ne hb).symm), E.ap⟩
  · by_cases hb : b = a
    · subst hb
      have := E0.base.g b u h
      rw [e] at this
      cases this
      exact ga
    · exact E.base.g b u (by rw [upd_ne hb]; exact h)
  · by_cases hb : b = a
    · subst hb
      have := E0.base.h b o hz h
      rw [eh] at this
      cases this
      exact ha
    · exact E.base.h b o hz (by rw [upd_ne hb]; exact h)
  · by_cases hb : b = a
    · subst hb
      have := E0.base.n b o h g
      rw [e] at this
      cases this
    · exact E.base.n b o (by rw [upd_ne hb]; exact h) (by rw [upd_ne hb]; exact g)
  · by_cases hb : b = a
    · subst hb
      exact ⟨_, ha⟩
    · exact E.base.t b o (by rw [upd_ne hb]; exact h)
end

/-! ### where a dict stands -/
section
variable {X : Cx} {z : Zs} {Γ Γ1 : List Sl} {ct : Ct} {a b c e o tg iter elt : Expr} {es ifs : List Expr} {scope : Scope} {rest body orelse : List Stmt} {α β γ τ ρ φ : Type} {A : Ty α} {B : Ty β} {Rf : Row φ} {pos p p' p2 apos cpos : Pos} {x m : Str} {w : Prop}
def PathD (X : Cx) (z : Zs) (Γ : List Sl) (e : Expr) {α : Type} (A : Ty α) (d : List (Str × α)) : Prop :=
  ∀ (G0 H0 : Hp) (σ : L2.St) (G H : Hp), Ev z G0 H0 G H σ Γ → ∃ (a : Addr) (ks : List (Key × V)) (td : TE), PE X e td ∧ G a = some (.dK ks) ∧ Paired (kvR A G) ks d ∧ ∀ (H' : Hp) (Q : VK), (∀ b, b ≠ a → H' b = H b) → Q (.ref a) H' → td σ H' Q
theorem path_name {d : List (Str × α)} (i : Nat) (hΓ : Γ[i]? = some (.fz (tyD A) d)) (hN : X.N[i]? = some x) (hv : Vis X.env.scope x) (hd : (x == ("__debug__" : Str)) = false := by decide) (hcd : (x == ("__classdict__" : Str)) = false := by decide) : PathD X z Γ (.Name x p) A d := fun G0 H0 σ G H E => by
  obtain ⟨ov, eo, v, rfl, a, ks, rfl, hg, r⟩ := E.at_ hΓ
  exact ⟨a, ks, _, pe_var hN hv hd hcd, hg, r, fun H' Q _ q => ⟨_, eo, q⟩⟩
theorem path_fld {C : Addr} {ns : List Str} {f : φ → List (Str × α)} {y : φ} {j : Nat} (i : Nat) (hΓ : Γ[i]? = some (.fz (tyO C ns Rf) y)) (hN : X.N[i]? = some x) (hv : Vis X.env.scope x) (hc : Cls X.K C) (hn : NoAttr X.K C m) (hnd : ns.Nodup) (hi : ns[j]? = some m) (hr : RowAt Rf j (tyD A) f)
    (hb : attributeBase (.Name x p) m X.env (eval (.Name x p) X.env) = eval (.Name x p) X.env := by rfl) (hd : (x == ("__debug__" : Str)) = false := by decide) (hcd : (x == ("__classdict__" : Str)) = false := by decide) : PathD X z Γ (.Attribute (.Name x p) m pos) A (f y) := fun G0 H0 σ G H E => by
  obtain ⟨ov, eo, v, rfl, q, dx, us, rfl, hq, r⟩ := E.at_ hΓ
  obtain ⟨u, hu, a, ks, rfl, hg, rk⟩ := hr G us y r
  have hqH : H q = some (.ins C dx (ns.zip us)) := (E.wd.lst hq (fun _ => by intro e; cases e)).r
  have ne : q ≠ a := fun h => by
    subst h
    rw [hg] at hq
    cases hq
  exact ⟨a, ks, _, pe_fld (pe_var hN hv hd hcd) hb, hg, rk, fun H' Q hk k => ⟨_, eo, q, C, dx, _, .ref a, rfl, by rw [hk q ne]; exact hqH, hc, hn, zip_some hnd hi hu, k⟩⟩
/-! ### for, at a state -/
/-- the walk J gives the items xs, wherever what G holds is held and P stands -/
structure ItOkP (z : Zs) (G : Hp) (J : It) {α : Type} (A : Ty α) (xs : List α) (P : Hp → Prop) : Prop where
  go : ∀ (i : Nat) (x : α) (G2 H2 : Hp), Wd z G2 H2 → Same G G2 → P H2 → xs[i]? = some x → J.go i H2
  yld : ∀ (i : Nat) (x : α) (G2 H2 : Hp) (v : V) (H3 : Hp), Wd z G2 H2 → Same G G2 → P H2 → xs[i]? = some x → J.yld i H2 v H3 → ∃ G3, Wd z G3 H3 ∧ Stp z G2 H2 G3 H3 ∧ A.rep G3 v x
  stop : ∀ (G2 H2 : Hp), Wd z G2 H2 → Same G G2 → P H2 → J.stop xs.length H2
theorem for_core {is : List Nat} {ΓT : τ → α → List Sl} {wb : (τ → Prop) → τ → α → Prop} {wk : τ → Prop} (ΓL : τ → List Sl) (s0 : τ) (hp : PassesOwn (model X.prog X.w) X.A X.env X.xe) (hc : X.calm = true) (cv : Cv Γ (ΓL s0))
    (hg : ∀ s, XG X z (ΓL s) tg A is (ΓT s))
    (hb : ∀ (nx : τ → Prop) s x, XB X z { ct with n := J ΓL nx, c := J ΓL nx, b := J ΓL wk } (ΓT s x) body (wb nx s x))
    {G0 H0 G H : Hp} {σ : L2.St} {D : Ends} (M : Meets z G0 H0 D { ct with n := J ΓL wk }) (E : Ev z G0 H0 G H σ Γ) {xs : List α} (hw : WFor xs s0 wb wk)
    {P : Hp → Prop} (hP : ∀ G' H', Stp z G0 H0 G' H' → P H') (hri : ∀ R : It → Hp → Prop, (∀ G' H' J, Wd z G' H' → Stp z G H G' H' → ItOkP z G' J A xs P → R J H') → RI X tg iter σ H R)
    (hs : ∀ x, foldedSetIterable iter X.env x = pure x) : RSt X (.For tg iter body [] pos) D σ H := by
  obtain ⟨I, i0, it, ie⟩ := hw
  refine ⟨_, ps_for hp hc ri rg rs hs, hri _ fun G1 H1 J' W1 S1 ok => ?_⟩
  obtain ⟨G2, sg, E2⟩ := cv z G0 H0 G1 H1 σ (E.step W1 S1)
  refine ⟨fun i m σ' H' => ∃ G' s, i ≤ xs.length ∧ m = xs.length - i ∧ Ev z G0 H0 G' H' σ' (ΓL s) ∧ Same G2 G' ∧ I i s, ⟨_, G2, s0, Nat.zero_le _, rfl, E2, Same.refl _, i0⟩, ?_⟩
  rintro i m σ' H' ⟨G', s, hi, rfl, E', sm, q⟩
  have bs := E'.base
  by_cases hlt : i < xs.length
  · refine .inr ⟨ok.go i xs[i] G' H' E'.wd (sg.trans sm) (hP _ _ bs) (by simp [hlt]), fun σ3 H3 => ∃ G3 s3, Ev z G0 H0 G3 H3 σ3 (ΓL s3) ∧ Same G2 G3 ∧ I (i + 1) s3, fun σ3 H3 ⟨G3, s3, E3, sm3, q3⟩ => ⟨xs.length - (i + 1), by omega, G3, s3, hlt, rfl, E3, sm3, q3⟩, fun v H3 y => ?_⟩
    obtain ⟨G3, W3, S3, r3⟩ := ok.yld i xs[i] G' H' v H3 E'.wd (sg.trans sm) (hP _ _ bs) (by simp [hlt]) y
    refine hg s G0 H0 σ' G3 H3 v xs[i] _ (E'.step W3 S3) r3 fun σ4 E4 _ => ?_
    have st : Stp z G0 H0 G3 H3 := bs.trans S3
    have M' : Meets z G3 H0 { D with nx := fun σ3 H3 => ∃ G3 s3, Ev z G0 H0 G3 H3 σ3 (ΓL s3) ∧ Same G2 G3 ∧ I (i + 1) s3, ct := fun σ3 H3 => ∃ G3 s3, Ev z G0 H0 G3 H3 σ3 (ΓL s3) ∧ Same G2 G3 ∧ I (i + 1) s3, bk := D.nx } { ct with n := J ΓL (I (i + 1)), c := J ΓL (I (i + 1)), b := J ΓL wk } :=
      ⟨fun σ5 G5 H5 Γ5 E5 ⟨s5, e5, q5⟩ => by subst e5; exact ⟨G5, s5, E5.rebase st, sm.trans (S3.g.trans E5.base.g), q5⟩,
       fun σ5 G5 H5 Γ5 E5 q5 => M.n σ5 G5 H5 Γ5 (E5.rebase st) q5,
       fun σ5 G5 H5 Γ5 E5 ⟨s5, e5, q5⟩ => by subst e5; exact ⟨G5, s5, E5.rebase st, sm.trans (S3.g.trans E5.base.g), q5⟩,
       fun σ5 G5 H5 Γ5 v5 y5 E5 r5 q5 => M.r σ5 G5 H5 Γ5 v5 y5 (E5.rebase st) r5 q5⟩
    exact hb (I (i + 1)) s xs[i] G3 H0 _ σ4 G3 H3 M' E4.debase (it i xs[i] s (by simp [hlt]) q)
  · have e : i = xs.length := by omega
    subst e
    exact .inl ⟨ok.stop G' H' E'.wd (sg.trans sm) (hP _ _ bs), M.n σ' G' H' (ΓL s) E' ⟨s, rfl, ie s q⟩⟩
/-- what a locked dict's walk gives -/
structure WkD (X : Cx) (z : Zs) (tg iter e : Expr) {α β : Type} (A : Ty α) (B : Ty β) (f : List (Str × α) → List β) : Prop where
  pi : ∀ (td : TE), PE X e td → ∃ t : TI, PI X tg iter t ∧ ∀ (G : Hp) (a : Addr) (ks : List (Key × V)) (d : List (Str × α)) (o : Obj) (σ : L2.St) (H : Hp), G a = some (.dK ks) → Paired (kvR A G) ks d → H a = some (.frz o (.dK ks)) → (∀ Q : VK, Q (.ref a) H → td σ H Q) →
    ∃ J : It, (∀ R : It → Hp → Prop, R J H → t σ H R) ∧ ItOkP z G J B (f d) (fun H2 => H2 a = some (.frz o (.dK ks)))
theorem kv_at {G : Hp} {ks : List (Key × V)} {d : List (Str × α)} (r : Paired (kvR A G) ks d) {i : Nat} {q : Str × α} (h : d[i]? = some q) : ∃ v, ks[i]? = some (Sum.inr q.1, v) ∧ sOk q.1 = true ∧ A.rep G v q.2 := by
  obtain ⟨⟨k, v⟩, h1, h2, h3⟩ := Paired.at_ r h
  rw [show k = Sum.inr q.1 from h2.1] at h1
  exact ⟨v, h1, h2.2, h3⟩
theorem wk_items {elts : List Expr} {kk : Nat} {tpos : Pos} (hbase : attributeBase e "items" X.env (eval e X.env) = eval e X.env := by rfl) (hline : (apos.endLine == cpos.line) = true := by rfl) :
    WkD X z (.Tuple elts kk tpos) (.Call (.Attribute e "items" apos) [] [] cpos) e A (tyT (Row.cons tyS (Row.one A))) id := ⟨fun td he => ⟨_, pi_items he hbase hline, fun G a ks d o σ H hg r hl ht => ⟨Iti a o ks, fun R q => ht _ ⟨a, o, ks, rfl, hl, q⟩, {
  go := fun i x G2 H2 W s p h => by
    obtain ⟨v, h1, _⟩ := kv_at r h
    exact ⟨p, (List.getElem?_eq_some_iff.mp h1).1⟩
  yld := fun i x G2 H2 v H3 W s p h ⟨T, k, u, h1, ev, hT, e3⟩ => by
    obtain ⟨v', h1', ok, hr⟩ := kv_at r h
    cases h1.symm.trans h1'
    subst ev e3
    have sm : Same G (upd G2 T (.tup [kV (Sum.inr x.1), u])) := s.trans (same_new (W.gh.free hT))
    exact ⟨_, W.new hT, Stp.new W.gh hT, T, _, rfl, upd_same, _, [u], rfl, ⟨rfl, ok⟩, u, rfl, A.mono sm hr⟩
  stop := fun G2 H2 W s p => ⟨p, by show ks.length ≤ (id d).length; rw [Paired.length r]; exact Nat.le_refl _⟩ }⟩⟩⟩
theorem wk_values (hbase : attributeBase e "values" X.env (eval e X.env) = eval e X.env := by rfl) (hline : (apos.endLine == cpos.line) = true := by rfl) :
    WkD X z tg (.Call (.Attribute e "values" apos) [] [] cpos) e A A (fun d => d.map (·.2)) := ⟨fun td he => ⟨_, pi_values he hbase hline, fun G a ks d o σ H hg r hl ht => ⟨Itd a o ks, fun R q => ht _ ⟨a, o, ks, rfl, hl, q⟩, {
  go := fun i x G2 H2 W s p h => by
    rw [List.getElem?_map] at h
    obtain ⟨q, hq, _⟩ := Option.map_eq_some_iff.mp h
    obtain ⟨v, h1, _⟩ := kv_at r hq
    exact ⟨p, (List.getElem?_eq_some_iff.mp h1).1⟩
  yld := fun i x G2 H2 v H3 W s p h ⟨e3, k, h1⟩ => by
    rw [List.getElem?_map] at h
    obtain ⟨q, hq, ex⟩ := Option.map_eq_some_iff.mp h
    obtain ⟨v', h1', ok, hr⟩ := kv_at r hq
    cases h1.symm.trans h1'
    subst e3
    rw [← ex]
    exact ⟨G2, W, Stp.refl _ _ _, A.mono s hr⟩
  stop := fun G2 H2 W s p => ⟨p, by rw [Paired.length r, List.length_map]; exact Nat.le_refl _⟩ }⟩⟩⟩
theorem wk_keys : WkD X z tg e e A tyS keys := ⟨fun td he => ⟨_, pi_keys he, fun G a ks d o σ H hg r hl ht => ⟨Itk a o ks, fun R q => ht _ ⟨a, o, rfl, .inl ⟨ks, hl, q⟩⟩, {
  go := fun i x G2 H2 W s p h => by
    unfold keys at h
    rw [List.getElem?_map] at h
    obtain ⟨q, hq, _⟩ := Option.map_eq_some_iff.mp h
    obtain ⟨v, h1, _⟩ := kv_at r hq
    exact ⟨p, (List.getElem?_eq_some_iff.mp h1).1⟩
  yld := fun i x G2 H2 v H3 W s p h ⟨e3, k, u, h1, ev⟩ => by
    unfold keys at h
    rw [List.getElem?_map] at h
    obtain ⟨q, hq, ex⟩ := Option.map_eq_some_iff.mp h
    obtain ⟨v', h1', ok, hr⟩ := kv_at r hq
    cases h1.symm.trans h1'
    subst e3 ev
    rw [← ex]
    exact ⟨G2, W, Stp.refl _ _ _, rfl, ok⟩
  stop := fun G2 H2 W s p => ⟨p, by unfold keys; rw [Paired.length r, List.length_map]; exact Nat.le_refl _⟩ }⟩⟩⟩
/-- for .. in what a dict has -/
theorem y_forD {f : List (Str × α) → List β} {d : List (Str × α)} {is : List Nat} {ΓT : τ → β → List Sl} {wb : (τ → Prop) → τ → β → Prop} {wk : τ → Prop} (ΓL : τ → List Sl) (s0 : τ) (hp : PassesOwn (model X.prog X.w) X.A X.env X.xe) (hc : X.calm = true) (hd : PathD X z Γ e A d) (hk : WkD X z tg iter e A B f) (cv : Cv Γ (ΓL s0))
    (hg : ∀ s, XG X z (ΓL s) tg B is (ΓT s)) (hw : w → WFor (f d) s0 wb wk)
    (hb : ∀ (nx : τ → Prop) s x, XB X z { ct with n := J ΓL nx, c := J ΓL nx, b := J ΓL wk } (ΓT s x) body (wb nx s x)) (hr : ∀ s, XB X z ct (ΓL s) rest (wk s))
    (hs : ∀ x, foldedSetIterable iter X.env x = pure x := by intro _; rfl) : XB X z ct Γ (.For tg iter body [] pos :: rest) w := fun G0 H0 D σ G H M E hw0 => by
  obtain ⟨a, ks, td, pe, hga, r, ev⟩ := hd G0 H0 σ G H E
  obtain ⟨t, pt, ht⟩ := hk.pi td pe
  have Mn : Meets z G0 H0 { D with nx := RS X rest D } { ct with n := J ΓL wk } := ⟨fun σ3 G3 H3 Γ3 E3 ⟨s3, e3, q3⟩ => by
    subst e3
    exact hr s3 G0 H0 D σ3 G3 H3 M E3 q3, M.b, M.c, M.r⟩
  rcases E.wd.gh a _ hga with hh | ⟨o, kvs, ee, hh⟩
  · -- not locked yet
    refine ⟨_, pss_cons (ps_lock rst) rs, a, .dK ks, hh, ?_, fun od => ?_⟩
    · exact (by first | exact .inr (.inl ⟨_, rfl⟩) | trivial | (show Mut (some (.dK ks)); first | trivial | exact ⟨_, rfl⟩ | simp [Mut]))
    · have E' := E.lock (od := od) hga
      have M' : Meets z (upd G0 a (.dK ks)) (upd H0 a (.frz od (.dK ks))) ⟨fun σ' H' => H' a = some (.frz od (.dK ks)) ∧ RS X rest D σ' (upd H' a (.dK ks)), fun v H' => H' a = some (.frz od (.dK ks)) ∧ D.rt v (upd H' a (.dK ks)), fun σ' H' => H' a = some (.frz od (.dK ks)) ∧ D.bk σ' (upd H' a (.dK ks)), fun σ' H' => H' a = some (.frz od (.dK ks)) ∧ D.ct σ' (upd H' a (.dK ks))⟩ { ct with n := J ΓL wk } :=
        ⟨fun σ3 G3 H3 Γ3 E3 q3 => by
          obtain ⟨k1, k2⟩ := E.unlock hga hh E3
          exact ⟨k1, Mn.n σ3 G3 _ Γ3 k2 q3⟩, fun σ3 G3 H3 Γ3 E3 q3 => by
          obtain ⟨k1, k2⟩ := E.unlock hga hh E3
          exact ⟨k1, M.b σ3 G3 _ Γ3 k2 q3⟩, fun σ3 G3 H3 Γ3 E3 q3 => by
          obtain ⟨k1, k2⟩ := E.unlock hga hh E3
          exact ⟨k1, M.c σ3 G3 _ Γ3 k2 q3⟩, fun σ3 G3 H3 Γ3 v y E3 r3 q3 => by
          obtain ⟨k1, k2⟩ := E.unlock hga hh E3
          exact ⟨k1, M.r σ3 G3 _ Γ3 v y k2 r3 q3⟩⟩
      obtain ⟨J', hR, ok⟩ := ht G a ks d od σ (upd H a (.frz od (.dK ks))) hga r upd_same fun Q q => ev _ Q (fun b hb => upd_ne hb) q
      exact for_core ΓL s0 hp hc cv hg hb M' E' (hw hw0) (fun G' H' S => S.h a _ (E'.wd.nez hga) upd_same) (fun R hR' => ⟨t, pt, hR R (hR' G _ J' E'.wd (Stp.refl _ _ _) ok)⟩) hs
  · -- locked already
    cases ee
    obtain ⟨J', hR, ok⟩ := ht G a ks d o σ H hga r hh fun Q q => ev _ Q (fun b hb => rfl) q
    have E' := E.lock (od := o) hga
    have eH : upd H a (.frz o (.dK ks)) = H := by
      funext b
      by_cases hb : b = a
      · subst hb; rw [upd_same, hh]
      · rw [upd_ne hb]
    rw [eH] at E'
    have M' : Meets z (upd G0 a (.dK ks)) (upd H0 a (.frz o (.dK ks))) { D with nx := RS X rest D } { ct with n := J ΓL wk } :=
      ⟨fun σ3 G3 H3 Γ3 E3 q3 => Mn.n σ3 G3 _ Γ3 (E.keep hga hh E3) q3, fun σ3 G3 H3 Γ3 E3 q3 => M.b σ3 G3 _ Γ3 (E.keep hga hh E3) q3,
       fun σ3 G3 H3 Γ3 E3 q3 => M.c σ3 G3 _ Γ3 (E.keep hga hh E3) q3, fun σ3 G3 H3 Γ3 v y E3 r3 q3 => M.r σ3 G3 _ Γ3 v y (E.keep hga hh E3) r3 q3⟩
    exact ⟨_, pss_cons rst rs, for_core ΓL s0 hp hc cv hg hb M' E' (hw hw0) (fun G' H' S => S.h a _ (E'.wd.nez hga) upd_same) (fun R hR' => ⟨t, pt, hR R (hR' G _ J' E'.wd (Stp.refl _ _ _) ok)⟩) hs⟩
end
end Zk
/-! TL23: dict comprehensions, displays. -/
namespace Zk
open PySem PySem.Spec L2

/-! ### what a key may be -/
class DKey {κ : Type} (A : Ty κ) where
  key : κ → Key
  good : κ → Prop
  of : ∀ {G v x}, A.rep G v x → v = kV (key x) ∧ good x
  to : ∀ {G x}, good x → A.rep G (kV (key x)) x
  inj : ∀ {x y}, key x = key y → x = y
instance : DKey tyS := ⟨Sum.inr, fun s => sOk s = true, fun h => h, fun h => ⟨rfl, h⟩, fun h => by injection h⟩
instance : DKey tyI := ⟨Sum.inl, fun _ => True, fun h => ⟨h, trivial⟩, fun _ => rfl, fun h => by injection h⟩
section
variable {κ α : Type} {K : Ty κ} {A : Ty α}
def kvK [dk : DKey K] (A : Ty α) (G : Hp) (p : Key × V) (q : κ × α) : Prop := (p.1 = dk.key q.1 ∧ dk.good q.1) ∧ A.rep G p.2 q.2
def putk [DecidableEq κ] (d : List (κ × α)) (s : κ) (y : α) : List (κ × α) :=
  if (d.any fun kv => decide (kv.1 = s)) = true then d.map (fun kv => if kv.1 = s then (kv.1, y) else kv) else d ++ [(s, y)]
variable [DecidableEq κ] [dk : DKey K]
theorem kvk_any {G : Hp} (s : κ) : ∀ {ks : List (Key × V)} {d : List (κ × α)}, Paired (kvK (K := K) A G) ks d → (ks.any fun kv => decide (kv.1 = dk.key s)) = d.any fun kv => decide (kv.1 = s)
  | _, _, .nil => rfl
  | _, _, .cons (a := k) (b := d) r t => by
    rw [List.any_cons, List.any_cons, kvk_any s t, r.1.1]
    by_cases h : d.1 = s
    · rw [decide_eq_true h, decide_eq_true (by rw [h])]
    · rw [decide_eq_false h, decide_eq_false fun e => h (dk.inj e)]
theorem kvk_map {G : Hp} (s : κ) {v : V} {y : α} (hv : A.rep G v y) : ∀ {ks : List (Key × V)} {d : List (κ × α)}, Paired (kvK (K := K) A G) ks d → Paired (kvK (K := K) A G) (ks.map fun kv => if kv.1 = dk.key s then (kv.1, v) else kv) (d.map fun kv => if kv.1 = s then (kv.1, y) else kv)
  | _, _, .nil => .nil
  | _, _, .cons (a := k) (b := d) r t => by
    rw [List.map_cons, List.map_cons]
    refine .cons ?_ (kvk_map s hv t)
    by_cases h : d.1 = s
    · rw [if_pos h, if_pos (by rw [r.1.1, h])]
      exact ⟨r.1, hv⟩
    · rw [if_neg h, if_neg fun e => h (by rw [r.1.1] at e; exact dk.inj e)]
      exact r
theorem kvk_put {G : Hp} (s : κ) (hs : dk.good s) {v : V} {y : α} (hv : A.rep G v y) {ks : List (Key × V)} {d : List (κ × α)} (r : Paired (kvK (K := K) A G) ks d) : Paired (kvK (K := K) A G) (putK ks (dk.key s) v) (putk d s y) := by
  unfold putK putk
  rw [kvk_any s r]
  by_cases h : (d.any fun kv => decide (kv.1 = s)) = true
  · rw [if_pos h, if_pos h]
    exact kvk_map s hv r
  · rw [if_neg h, if_neg h]
    exact Paired.app r (.cons ⟨⟨rfl, hs⟩, hv⟩ .nil)
end
theorem putk_eq {α : Type} (d : List (Str × α)) (s : Str) (y : α) : putk d s y = put d s y := rfl

/-! ### new dicts -/
section
variable {X : Cx} {z : Zs} {Γ Γ1 : List Sl} {ct : Ct} {a b c e o tg iter kx vx : Expr} {es ifs : List Expr} {scope : Scope} {rest body orelse : List Stmt} {α β γ κ τ ρ φ : Type} {A : Ty α} {B : Ty β} {K : Ty κ} {Rf : Row φ} {pos p p' p2 apos cpos : Pos} {x m : Str} {w : Prop}
/-- a new dict -/
def XDn (X : Cx) (z : Zs) (Γ : List Sl) (e : Expr) (K : Ty κ) [DKey K] (B : Ty β) (w : (List (κ × β) → Prop) → Prop) : Prop :=
  ∀ (G0 H0 : Hp) (σ : L2.St) (G H : Hp) (k : List (κ × β) → Prop) (Q : VK), Ev z G0 H0 G H σ Γ → w k →
    (∀ G' H' q ks d, Wd z G' H' → Stp z G H G' H' → H q = none → G' q = none → H' q = some (.dK ks) → Paired (kvK (K := K) B G') ks d → k d → Q (.ref q) H') → RE X e σ H Q
theorem xe_dn {wd : (List (Str × β) → Prop) → Prop} (h : XDn X z Γ e tyS B wd) : XE X z Γ e (tyD B) wd := fun G0 H0 σ G H k Q E hw hk =>
  h G0 H0 σ G H k Q E hw fun G1 H1 q ks d W1 S1 nq gq hq r h1 =>
    hk (upd G1 q (.dK ks)) H1 _ d (W1.frz hq gq (E.nz nq)) ⟨S1.g.trans (same_new gq), S1.h, fun a o ha ga => by
      rw [upd_ne (ne_of_none ha nq)]
      exact S1.n a o ha ga, S1.t⟩ ⟨q, ks, rfl, upd_same, Paired.mono (fun _ _ r => ⟨r.1, B.mono (same_new gq) r.2⟩) r⟩ h1
theorem SlOk.md_of {G0 H0 G H G1 H1 : Hp} {σ : L2.St} (E : Ev z G0 H0 G H σ Γ) {q : Addr} {ks : List (Key × V)} {d : List (Str × β)} (nq : H q = none) (gq : G1 q = none) (hq : H1 q = some (.dK ks)) (r : Paired (kvR B G1) ks d) : SlOk z H0 G1 H1 (some (.ref q)) (.md B d) :=
  ⟨q, ks, rfl, ⟨gq, E.znew nq, E.h0new nq, hq⟩, r⟩
theorem y_setDn (i : Nat) {wd : (List (Str × β) → Prop) → Prop} {wk : List (Str × β) → Prop} (hN : X.N.Nodup) (hi : X.N[i]? = some x) (hx : Loc X.env.scope x) (he : XDn X z Γ e tyS B wd) (hw : w → wd fun v => Bnd v wk) (hn : ∀ y, XB X z ct (Γ.set i (.md B y)) rest (wk y))
    (hs : swapsWith e (some (.Name x p')) pos.line X.env = pure false := by rfl) (hf : X.fn x = true ∨ X.env.scope.names.lookup x = some .local := by first | exact .inl rfl | exact .inr rfl) :
    XB X z ct Γ (.Assign [.Name x p'] e pos :: rest) w := fun G0 H0 D σ G H M E hw0 =>
  ⟨_, pss_cons (ps_set hN hi hx re hs hf) rs, he G0 H0 σ G H _ _ E (hw hw0) fun G1 H1 q ks d W1 S1 nq gq hq r h1 => hn d G0 H0 D _ G1 H1 M (E.takeOwn W1 S1 i nq (SlOk.md_of E nq gq hq r)) h1⟩
/-! ### comprehensions -/
def RDc (X : Cx) (kx vx tg iter : Expr) (ifs : List Expr) (scope : Scope) (own : List (Str × Nat)) : TE :=
  tDc (RI X tg iter) (fun v σ H Q => ∀ s H0 C cl fp, RG (X.blk s H0 scope (compEnvC scope cl C X.env) fp) tg v σ H Q)
    (fun σ H Q => ∀ s H0 C cl fp, ∃ t, PTs (X.blk s H0 scope (compEnvC scope cl C X.env) fp) ifs t ∧ t σ H Q)
    (fun σ H Q => ∀ s H0 C cl fp, RE (X.blk s H0 scope (compEnvC scope cl C X.env) fp) kx σ H Q)
    (fun σ H Q => ∀ s H0 C cl fp, RE (X.blk s H0 scope (compEnvC scope cl C X.env) fp) vx σ H Q) (own.map (·.2))
/-- behind the iterator J -/
def RDi (X : Cx) (J : It) (kx vx tg : Expr) (ifs : List Expr) (scope : Scope) (own : List (Str × Nat)) : TE :=
  tDc (fun _ H R => R J H) (fun v σ H Q => ∀ s H0 C cl fp, RG (X.blk s H0 scope (compEnvC scope cl C X.env) fp) tg v σ H Q)
    (fun σ H Q => ∀ s H0 C cl fp, ∃ t, PTs (X.blk s H0 scope (compEnvC scope cl C X.env) fp) ifs t ∧ t σ H Q)
    (fun σ H Q => ∀ s H0 C cl fp, RE (X.blk s H0 scope (compEnvC scope cl C X.env) fp) kx σ H Q)
    (fun σ H Q => ∀ s H0 C cl fp, RE (X.blk s H0 scope (compEnvC scope cl C X.env) fp) vx σ H Q) (own.map (·.2))
theorem pe_rdc {own : List (Str × Nat)} (hc : X.calm = true) (hN : X.N.Nodup) (ok : BlkOk X.N X.env.scope scope own) (hs : ∀ x, foldedSetIterable iter X.env x = pure x) : PE X (.DictComp kx vx [⟨tg, iter, ifs, 0⟩] scope pos) (RDc X kx vx tg iter ifs scope own) :=
  pe_dc hc hN ri ok (fun s H C cl fp => ⟨fun pins s' σ' H' v u Q I r h => rg.run pins s' σ' H' v u Q I r (h s H C cl fp)⟩)
    (fun s H C cl fp => ⟨fun pins s' σ' H' Q I h => by obtain ⟨t, h1, h2⟩ := h s H C cl fp; exact h1.run pins s' σ' H' Q I h2⟩)
    (fun s H C cl fp => ⟨fun pins s' σ' H' Q I h => re.run pins s' σ' H' Q I (h s H C cl fp)⟩)
    (fun s H C cl fp => ⟨fun pins s' σ' H' Q I h => re.run pins s' σ' H' Q I (h s H C cl fp)⟩) hs
/-- name = {..}, the name a local -/
theorem ps_rdc {own : List (Str × Nat)} {i : Nat} {y : Str} {py spos : Pos} (hc : X.calm = true) (hN : X.N.Nodup) (ok : BlkOk X.N X.env.scope scope own) (hs : ∀ x, foldedSetIterable iter X.env x = pure x) (hy : X.N[i]? = some y) (hyl : X.env.scope.names.lookup y = some .local)
    (hsw : swapsWith (.DictComp kx vx [⟨tg, iter, ifs, 0⟩] scope pos) (some (.Name y py)) spos.line X.env = pure true) : PS X (.Assign [.Name y py] (.DictComp kx vx [⟨tg, iter, ifs, 0⟩] scope pos) spos) (tAsg (RDc X kx vx tg iter ifs scope own) (gName i)) := by
  refine ⟨fun pins s σ H D I h => ?_⟩
  rw [exec_Assign_Name_used _ _ _ _ hsw]
  refine wpAny_bind (wpAny_standAt (wpAny_bind ?_))
  show wpAny _ X.A (do let _ ← comprehension (.DictComp kx vx [⟨tg, iter, ifs, 0⟩] scope pos) scope X.env (firstIterPos [⟨tg, iter, ifs, 0⟩] pos) newDict false (eval iter X.env) (some (assign (.Name y py) X.env))) _ _ s
  have h : RDc X kx vx tg iter ifs scope own σ H (fun x H1 => gName i x σ H1 D.nx) := h
  refine wpAny_bind (thn (dc_core (Qf := fun _ s' => SP X pins D .next s') hc hN I ri ok (fun s H C cl fp => ⟨fun pins s' σ' H' v u Q I r h => rg.run pins s' σ' H' v u Q I r (h s H C cl fp)⟩)
    (fun s H C cl fp => ⟨fun pins s' σ' H' Q I h => by obtain ⟨t, h1, h2⟩ := h s H C cl fp; exact h1.run pins s' σ' H' Q I h2⟩)
    (fun s H C cl fp => ⟨fun pins s' σ' H' Q I h => re.run pins s' σ' H' Q I (h s H C cl fp)⟩)
    (fun s H C cl fp => ⟨fun pins s' σ' H' Q I h => re.run pins s' σ' H' Q I (h s H C cl fp)⟩) hs h fun L C s' m H' I' q hn f => ?_) fun _ s' hq => wpAny_pure (wpAny_pure hq))
  show wpAny _ _ (assign (.Name y py) X.env (.ref L)) _ _ _
  refine wpAny_assign_Name (store_ok2 (v := V.ref L) I' hN hy (.inl hyl) rfl (fun s2 I2 ⟨a, sb, ha⟩ => ?_) (.inr hyl))
  obtain ⟨f0, f1, f2, f3, f4, f5⟩ := f
  have haC : C ≠ a := by
    rcases ha with z | z
    · rw [z]; exact f1
    · exact fun e => f4 y a z e.symm
  refine ⟨m, hn.sameBut sb haC, fun h3 sb3 => ?_⟩
  exact ⟨_, H', I2.turned (t' := s2.toks) (fun b o hb e => (sb3.2 b hb).trans e) f0 f1 f3 f4 f5, q⟩
/-- by an invariant over the turn and what has been made -/
def WDc [DecidableEq κ] (xs : List α) (wt : α → (Bool → Prop) → Prop) (wk : α → (κ → Prop) → Prop) (wv : α → (β → Prop) → Prop) (k : List (κ × β) → Prop) : Prop :=
  xs.length < sizeLine ∧ ∃ I : Nat → List (κ × β) → Prop, I 0 [] ∧ (∀ i x acc, xs[i]? = some x → I i acc → wt x fun b => if b = true then wk x fun s => wv x fun y => I (i + 1) (putk acc s y) else I (i + 1) acc) ∧ ∀ acc, I xs.length acc → k acc
theorem put_len [DecidableEq κ] (d : List (κ × β)) (s : κ) (y : β) : (putk d s y).length ≤ d.length + 1 := by
  unfold putk
  by_cases h : (d.any fun kv => decide (kv.1 = s)) = true
  · rw [if_pos h, List.length_map]; omega
  · rw [if_neg h, List.length_append]; exact Nat.le_refl _
/-- the comprehension, at a state -/
theorem dc_J [DecidableEq κ] [dk : DKey K] {is : List Nat} {ΓT : α → List Sl} {wt : α → (Bool → Prop) → Prop} {wk : α → (κ → Prop) → Prop} {wv : α → (β → Prop) → Prop} (own : List (Str × Nat))
    (hg : ∀ (s : Shared) (H : Hp) (C : Addr) (cl : List (Str × Addr)) (fp : List Addr), XG (X.blk s H scope (compEnvC scope cl C X.env) fp) z (wipeG Γ (own.map (·.2))) tg A is ΓT) (his : ∀ i ∈ is, i ∈ own.map (·.2))
    (ht : ∀ (s : Shared) (H : Hp) (C : Addr) (cl : List (Str × Addr)) (fp : List Addr) (x : α), XTs (X.blk s H scope (compEnvC scope cl C X.env) fp) z (ΓT x) ifs (wt x))
    (hk : ∀ (s : Shared) (H : Hp) (C : Addr) (cl : List (Str × Addr)) (fp : List Addr) (x : α), XE (X.blk s H scope (compEnvC scope cl C X.env) fp) z (ΓT x) kx K (wk x))
    (he : ∀ (s : Shared) (H : Hp) (C : Addr) (cl : List (Str × Addr)) (fp : List Addr) (x : α), XE (X.blk s H scope (compEnvC scope cl C X.env) fp) z (ΓT x) vx B (wv x))
    {G0 H0 G H : Hp} {σ : L2.St} {k : List (κ × β) → Prop} {Q : VK} (E : Ev z G0 H0 G H σ Γ) {xs : List α} (hw : WDc xs wt wk wv k) {P : Hp → Prop} (hP : ∀ G' H', Stp z G0 H0 G' H' → P H')
    {J' : It} (ok : ItOkP z G J' A xs P)
    (hk' : ∀ G' H' q ks d, Wd z G' H' → Stp z G H G' H' → H q = none → G' q = none → H' q = some (.dK ks) → Paired (kvK (K := K) B G') ks d → k d → Q (.ref q) H') : RDi X J' kx vx tg ifs scope own σ H Q := by
  obtain ⟨hsz, I, i0, it, ie⟩ := hw
  intro q nq
  refine ⟨fun i m H' => ∃ G' vs acc, i ≤ xs.length ∧ m = xs.length - i ∧ Wd z G' H' ∧ Stp z G H G' H' ∧ G' q = none ∧ H' q = some (.dK vs) ∧ Paired (kvK (K := K) B G') vs acc ∧ acc.length ≤ i ∧ I i acc,
    ⟨_, G, [], [], Nat.zero_le _, rfl, E.wd.own nq, Stp.own nq, E.wd.gh.free nq, upd_same, .nil, Nat.le_refl _, i0⟩, ?_⟩
  rintro i m H' ⟨G', vs, acc, hi, rfl, W', S', gq, hq, r, hla, hI⟩
  have E' := E.step W' S'
  have hPH := hP _ _ (E.base.trans S')
  by_cases hlt : i < xs.length
  · refine .inr ⟨ok.go i xs[i] G' H' W' S'.g hPH (by simp [hlt]), fun H3 => ∃ G3 vs acc, Wd z G3 H3 ∧ Stp z G H G3 H3 ∧ G3 q = none ∧ H3 q = some (.dK vs) ∧ Paired (kvK (K := K) B G3) vs acc ∧ acc.length ≤ i + 1 ∧ I (i + 1) acc,
      fun H3 ⟨G3, vs3, acc3, W3, S3, g3, h3, r3, l3, q3⟩ => ⟨xs.length - (i + 1), by omega, G3, vs3, acc3, hlt, rfl, W3, S3, g3, h3, r3, l3, q3⟩, fun v H3 y => ?_⟩
    obtain ⟨G3, W3, S3, r3⟩ := ok.yld i xs[i] G' H' v H3 W' S'.g hPH (by simp [hlt]) y
    have E3 := (E'.step W3 S3).wipe (own.map (·.2))
    intro s Hb C cl fp
    refine hg s Hb C cl fp G0 H0 _ G3 H3 v xs[i] _ E3 r3 fun σ4 E4 hσ => ⟨(wipe_eq his hσ).trans wipe_wipe, ?_⟩
    intro s Hb C cl fp
    refine ht s Hb C cl fp xs[i] G0 H0 σ4 G3 H3 _ _ E4 (it i xs[i] acc (by simp [hlt]) hI) fun G5 H5 b W5 S5 g5 => ?_
    have S35 := S3.trans S5
    have gq5 : G5 q = none := S35.n q _ hq gq
    have hq5 : H5 q = some (.dK vs) := S35.h q _ (E.znew nq) hq
    cases b with
    | false =>
      exact ⟨G5, vs, acc, W5, S'.trans S35, gq5, hq5, Paired.mono (fun _ _ w => ⟨w.1, B.mono S35.g w.2⟩) r, Nat.le_succ_of_le hla, g5⟩
    | true =>
      intro s Hb C cl fp
      refine hk s Hb C cl fp xs[i] G0 H0 σ4 G5 H5 _ _ (E4.step W5 S5) g5 fun G7 H7 u7 y7 W7 S7 r7 g7 => ?_
      intro s Hb C cl fp
      refine he s Hb C cl fp xs[i] G0 H0 σ4 G7 H7 _ _ ((E4.step W5 S5).step W7 S7) g7 fun G6 H6 u y W6 S6 r6 g6 => ?_
      have S36 := (S35.trans S7).trans S6
      have gq6 : G6 q = none := S36.n q _ hq gq
      have hq6 : H6 q = some (.dK vs) := S36.h q _ (E.znew nq) hq
      obtain ⟨e7, good7⟩ := dk.of r7
      have st : Stp z G H G6 (upd H6 q (.dK (putK vs (dk.key y7) u))) := by
        have S16 := S'.trans S36
        have ne : ∀ {a : Addr} {w : HO}, H a = some w → a ≠ q := fun h => ne_of_none h nq
        exact ⟨S16.g, fun a w hz h => by rw [upd_ne (ne h)]; exact S16.h a w hz h, S16.n, fun a w h => by
          obtain ⟨o', e⟩ := S16.t a w h
          exact ⟨o', by rw [upd_ne (ne h)]; exact e⟩⟩
      have rr : Paired (kvK (K := K) B G6) vs acc := Paired.mono (fun _ _ w => ⟨w.1, B.mono S36.g w.2⟩) r
      exact ⟨vs, dk.key y7, e7, hq6, by rw [r.length]; omega, G6, putK vs (dk.key y7) u, putk acc y7 y, W6.set gq6 (E.znew nq), st, gq6, upd_same, kvk_put y7 good7 r6 rr, Nat.le_trans (put_len _ _ _) (by omega), g6⟩
  · have e : i = xs.length := by omega
    subst e
    exact .inl ⟨ok.stop G' H' W' S'.g hPH, hk' G' H' q vs acc W' S' nq gq hq r (ie acc hI)⟩
theorem ItOk.any {G : Hp} {J' : It} {xs : List α} (h : ItOk z G J' A xs) : ItOkP z G J' A xs (fun _ => True) := ⟨fun i x G2 H2 W s _ => h.go i x G2 H2 W s, fun i x G2 H2 v H3 W s _ => h.yld i x G2 H2 v H3 W s, fun G2 H2 W s _ => h.stop G2 H2 W s⟩
variable [DecidableEq κ] [dk : DKey K] {is : List Nat} {ΓT : α → List Sl} {wt : α → (Bool → Prop) → Prop} {wk : α → (κ → Prop) → Prop} {wv : α → (β → Prop) → Prop} {wl : (List α → Prop) → Prop}
/-- {k: v for ..} -/
theorem xd_dc (own : List (Str × Nat)) (hc : X.calm = true) (hN : X.N.Nodup) (hi : XI X z Γ tg iter A wl) (ok : blkC X.N X.env.scope scope own = true)
    (hg : ∀ (s : Shared) (H : Hp) (C : Addr) (cl : List (Str × Addr)) (fp : List Addr), XG (X.blk s H scope (compEnvC scope cl C X.env) fp) z (wipeG Γ (own.map (·.2))) tg A is ΓT) (his : ∀ i ∈ is, i ∈ own.map (·.2))
    (ht : ∀ (s : Shared) (H : Hp) (C : Addr) (cl : List (Str × Addr)) (fp : List Addr) (x : α), XTs (X.blk s H scope (compEnvC scope cl C X.env) fp) z (ΓT x) ifs (wt x))
    (hk : ∀ (s : Shared) (H : Hp) (C : Addr) (cl : List (Str × Addr)) (fp : List Addr) (x : α), XE (X.blk s H scope (compEnvC scope cl C X.env) fp) z (ΓT x) kx K (wk x))
    (he : ∀ (s : Shared) (H : Hp) (C : Addr) (cl : List (Str × Addr)) (fp : List Addr) (x : α), XE (X.blk s H scope (compEnvC scope cl C X.env) fp) z (ΓT x) vx B (wv x)) (hs : ∀ x, foldedSetIterable iter X.env x = pure x := by intro _; rfl) :
    XDn X z Γ (.DictComp kx vx [⟨tg, iter, ifs, 0⟩] scope pos) K B (fun k => wl fun xs => WDc xs wt wk wv k) := fun G0 H0 σ G H k Q E hw hk' =>
  ⟨_, pe_rdc hc hN (blkOk_by ok) hs, by
    refine hi G0 H0 σ G H _ _ E hw fun G1 H1 J' xs W1 S1 ok' hw' => ?_
    have E1 := E.step W1 S1
    exact dc_J own hg his ht hk he E1 hw' (P := fun _ => True) (fun _ _ _ => trivial) ok'.any fun G' H' q ks d W' S' nq gq hq r hkd => hk' G' H' q ks d W' (S1.trans S') (by
      cases e : H q with
      | none => rfl
      | some o =>
        obtain ⟨o', e'⟩ := S1.t q o e
        rw [nq] at e'
        cases e') gq hq r hkd⟩
/-- {k: v for .. in what a dict has} -/
theorem xd_dcD {γ : Type} {C : Ty γ} {f : List (Str × γ) → List α} {d : List (Str × γ)} (own : List (Str × Nat)) (hc : X.calm = true) (hN : X.N.Nodup) (hd : PathD X z Γ e C d) (hw0 : WkD X z tg iter e C A f) (ok : blkC X.N X.env.scope scope own = true)
    (hg : ∀ (s : Shared) (H : Hp) (C : Addr) (cl : List (Str × Addr)) (fp : List Addr), XG (X.blk s H scope (compEnvC scope cl C X.env) fp) z (wipeG Γ (own.map (·.2))) tg A is ΓT) (his : ∀ i ∈ is, i ∈ own.map (·.2))
    (ht : ∀ (s : Shared) (H : Hp) (C : Addr) (cl : List (Str × Addr)) (fp : List Addr) (x : α), XTs (X.blk s H scope (compEnvC scope cl C X.env) fp) z (ΓT x) ifs (wt x))
    (hk : ∀ (s : Shared) (H : Hp) (C : Addr) (cl : List (Str × Addr)) (fp : List Addr) (x : α), XE (X.blk s H scope (compEnvC scope cl C X.env) fp) z (ΓT x) kx K (wk x))
    (he : ∀ (s : Shared) (H : Hp) (C : Addr) (cl : List (Str × Addr)) (fp : List Addr) (x : α), XE (X.blk s H scope (compEnvC scope cl C X.env) fp) z (ΓT x) vx B (wv x)) (hs : ∀ x, foldedSetIterable iter X.env x = pure x := by intro _; rfl) :
    XDn X z Γ (.DictComp kx vx [⟨tg, iter, ifs, 0⟩] scope pos) K B (fun k => WDc (f d) wt wk wv k) := fun G0 H0 σ G H k Q E hw hk' => by
  obtain ⟨a, ks, td, pe, hga, r, ev⟩ := hd G0 H0 σ G H E
  obtain ⟨t, pt, htt⟩ := hw0.pi td pe
  rcases E.wd.gh a _ hga with hh | ⟨o, kvs, ee, hh⟩
  · refine ⟨_, pe_lock (pe_rdc hc hN (blkOk_by ok) hs), a, .dK ks, hh, True.intro, fun od => ?_⟩
    have E' := E.lock (od := od) hga
    obtain ⟨J', hR, ok'⟩ := htt G a ks d od σ (upd H a (.frz od (.dK ks))) hga r upd_same fun Q q => ev _ Q (fun b hb => upd_ne hb) q
    refine ⟨t, pt, hR _ (dc_J (Q := fun v H' => H' a = some (.frz od (.dK ks)) ∧ Q v (upd H' a (.dK ks))) own hg his ht hk he E' hw (P := fun H2 => H2 a = some (.frz od (.dK ks))) (fun G' H' S => S.h a _ (E'.wd.nez hga) upd_same) ok' fun G' H' q ks' d' W' S' nq gq hq r' hkd => ?_)⟩
    obtain ⟨k1, k2⟩ := E.unlock hga hh (E'.step W' S')
    have nq0 : H q = none := by
      by_cases hb : q = a
      · subst hb; rw [upd_same] at nq; cases nq
      · rw [upd_ne hb] at nq; exact nq
    have nqa : q ≠ a := fun e => by rw [e, hh] at nq0; cases nq0
    refine ⟨k1, hk' G' (upd H' a (.dK ks)) q ks' d' k2.wd ⟨S'.g, fun b o hz h => ?_, fun b o h g => ?_, fun b o h => ?_⟩ nq0 gq (by rw [upd_ne nqa]; exact hq) r' hkd⟩
    · by_cases hb : b = a
      · subst hb; rw [hh] at h; cases h; exact upd_same
      · rw [upd_ne hb]; exact S'.h b o hz (by rw [upd_ne hb]; exact h)
    · by_cases hb : b = a
      · subst hb; rw [hga] at g; cases g
      · exact S'.n b o (by rw [upd_ne hb]; exact h) g
    · by_cases hb : b = a
      · subst hb; exact ⟨_, upd_same⟩
      · obtain ⟨o', q⟩ := S'.t b o (by rw [upd_ne hb]; exact h)
        exact ⟨o', by rw [upd_ne hb]; exact q⟩
  · cases ee
    obtain ⟨J', hR, ok'⟩ := htt G a ks d o σ H hga r hh fun Q q => ev _ Q (fun b hb => rfl) q
    have E' := E.lock (od := o) hga
    have eH : upd H a (.frz o (.dK ks)) = H := by
      funext b
      by_cases hb : b = a
      · subst hb; rw [upd_same, hh]
      · rw [upd_ne hb]
    rw [eH] at E'
    exact ⟨_, pe_rdc hc hN (blkOk_by ok) hs, t, pt, hR _ (dc_J (Q := Q) own hg his ht hk he E' hw (P := fun H2 => H2 a = some (.frz o (.dK ks))) (fun G' H' S => S.h a _ (E'.wd.nez hga) upd_same) ok' hk')⟩
/-! ### comprehensions that are maps -/
/-- the dict of some pairs, a later one over an earlier one -/
def dictOf (l : List (κ × β)) : List (κ × β) := l.foldl (fun d q => putk d q.1 q.2) []
omit dk in
theorem WDc_map {xs : List α} {f : α → κ} {g : α → β} {k : List (κ × β) → Prop} (hl : xs.length < sizeLine) (h : k (dictOf (xs.map fun x => (f x, g x)))) : WDc xs (fun _ kk => kk true) (fun x kk => kk (f x)) (fun x kk => kk (g x)) k :=
  ⟨hl, fun i acc => acc = dictOf ((xs.take i).map fun x => (f x, g x)), by simp [dictOf], fun i x acc hx hI => by
    show putk acc (f x) (g x) = _
    rw [hI, List.take_add_one, hx]
    simp [dictOf], fun acc hI => by rw [hI, List.take_length]; exact h⟩
theorem xdn_imp {e : Expr} {w w' : (List (κ × β) → Prop) → Prop} (h : XDn X z Γ e K B w) (f : ∀ k, w' k → w k) : XDn X z Γ e K B w' := fun G0 H0 σ G H k Q E hw hk => h G0 H0 σ G H k Q E (f k hw) hk
theorem xd_dcm {f : α → κ} {g : α → β} (own : List (Str × Nat)) (hc : X.calm = true) (hN : X.N.Nodup) (hi : XI X z Γ tg iter A wl) (ok : blkC X.N X.env.scope scope own = true)
    (hg : ∀ (s : Shared) (H : Hp) (C : Addr) (cl : List (Str × Addr)) (fp : List Addr), XG (X.blk s H scope (compEnvC scope cl C X.env) fp) z (wipeG Γ (own.map (·.2))) tg A is ΓT) (his : ∀ i ∈ is, i ∈ own.map (·.2))
    (hk : ∀ (s : Shared) (H : Hp) (C : Addr) (cl : List (Str × Addr)) (fp : List Addr) (x : α), XE (X.blk s H scope (compEnvC scope cl C X.env) fp) z (ΓT x) kx K (wk x))
    (he : ∀ (s : Shared) (H : Hp) (C : Addr) (cl : List (Str × Addr)) (fp : List Addr) (x : α), XE (X.blk s H scope (compEnvC scope cl C X.env) fp) z (ΓT x) vx B (wv x)) (h1 : wk = fun x kk => kk (f x)) (h2 : wv = fun x kk => kk (g x)) (hs : ∀ x, foldedSetIterable iter X.env x = pure x := by intro _; rfl) :
    XDn X z Γ (.DictComp kx vx [⟨tg, iter, [], 0⟩] scope pos) K B (fun k => wl fun xs => xs.length < sizeLine ∧ k (dictOf (xs.map fun x => (f x, g x)))) := by
  subst h1 h2
  exact xdn_imp (xd_dc own hc hN (xi_mono hi) ok hg his (fun _ _ _ _ _ _ => xts_nil) hk he hs) fun k h => ⟨_, h, fun xs q => WDc_map q.1 q.2⟩
theorem xd_dcDm {γ : Type} {C : Ty γ} {ff : List (Str × γ) → List α} {d : List (Str × γ)} {f : α → κ} {g : α → β} (own : List (Str × Nat)) (hc : X.calm = true) (hN : X.N.Nodup) (hd : PathD X z Γ e C d) (hw0 : WkD X z tg iter e C A ff) (ok : blkC X.N X.env.scope scope own = true)
    (hg : ∀ (s : Shared) (H : Hp) (C : Addr) (cl : List (Str × Addr)) (fp : List Addr), XG (X.blk s H scope (compEnvC scope cl C X.env) fp) z (wipeG Γ (own.map (·.2))) tg A is ΓT) (his : ∀ i ∈ is, i ∈ own.map (·.2))
    (hk : ∀ (s : Shared) (H : Hp) (C : Addr) (cl : List (Str × Addr)) (fp : List Addr) (x : α), XE (X.blk s H scope (compEnvC scope cl C X.env) fp) z (ΓT x) kx K (wk x))
    (he : ∀ (s : Shared) (H : Hp) (C : Addr) (cl : List (Str × Addr)) (fp : List Addr) (x : α), XE (X.blk s H scope (compEnvC scope cl C X.env) fp) z (ΓT x) vx B (wv x)) (h1 : wk = fun x kk => kk (f x)) (h2 : wv = fun x kk => kk (g x)) (hs : ∀ x, foldedSetIterable iter X.env x = pure x := by intro _; rfl) :
    XDn X z Γ (.DictComp kx vx [⟨tg, iter, [], 0⟩] scope pos) K B (fun k => (ff d).length < sizeLine ∧ k (dictOf ((ff d).map fun x => (f x, g x)))) := by
  subst h1 h2
  exact xdn_imp (xd_dcD own hc hN hd hw0 ok hg his (fun _ _ _ _ _ _ => xts_nil) hk he hs) fun k h => WDc_map h.1 h.2
end
/-! ### a display of one pair; sorted -/
section
variable {X : Cx} {z : Zs} {Γ : List Sl} {a b c e o : Expr} {es : List Expr} {α β κ ρ φ : Type} {A : Ty α} {B : Ty β} {K : Ty κ} {pos p p2 apos mpos : Pos} {x m : Str} {wk : (κ → Prop) → Prop} {wb : (β → Prop) → Prop}
theorem xd_one [dk : DKey K] (hk : XE X z Γ a K wk) (hv : XE X z Γ b B wb) : XDn X z Γ (.Dict [some a] [b] pos) K B (fun k => wk fun x => wb fun y => k [(x, y)]) := fun G0 H0 σ G H k Q E hw hk' =>
  ⟨_, pe_disp (pps_cons re re pps_nil) rfl rfl (by simp) (by show 1 ≤ 15; decide), fun q nq => by
    have gq := E.wd.gh.free nq
    have E1 : Ev z G0 H0 G (upd H q (.dK [])) σ Γ := E.step (E.wd.own nq) (Stp.own nq)
    refine hk G0 H0 σ G _ _ _ E1 hw fun G1 H1 u s W1 S1 r1 h1 => hv G0 H0 σ G1 H1 _ _ (E1.step W1 S1) h1 fun G2 H2 v y W2 S2 r2 h2 => ?_
    have S := S1.trans S2
    have zq : z.at_ ≠ some q := E.znew nq
    have hq2 : H2 q = some (.dK []) := S.h q _ zq upd_same
    have gq2 : G2 q = none := S.n q _ upd_same gq
    obtain ⟨eu, gd⟩ := dk.of r1
    refine ⟨hq2, [(dk.key s, v)], by rw [eu]; rfl, by show 1 ≤ 15; decide, ?_⟩
    refine hk' G2 _ q _ [(s, y)] (W2.set gq2 zq) ⟨S.g, fun a o hz h => ?_, fun a o h g => ?_, fun a o h => ?_⟩ nq gq2 upd_same (.cons ⟨⟨rfl, gd⟩, r2⟩ .nil) h2
    · have ne := ne_of_none h nq
      rw [upd_ne ne]
      exact S.h a o hz (by rw [upd_ne ne]; exact h)
    · exact S.n a o (by rw [upd_ne (ne_of_none h nq)]; exact h) g
    · have ne := ne_of_none h nq
      obtain ⟨o', e⟩ := S.t a o (by rw [upd_ne ne]; exact h)
      exact ⟨o', by rw [upd_ne ne]; exact e⟩⟩
theorem kvk_ints {G : Hp} : ∀ {ks : List (Key × V)} {d : List (Int × β)}, Paired (kvK (K := tyI) B G) ks d → ks.map (·.1) = (d.map (·.1)).map Sum.inl
  | _, _, .nil => rfl
  | _, _, .cons (a := k) (b := e) r t => by
    show k.1 :: _ = Sum.inl e.1 :: _
    rw [show k.1 = Sum.inl e.1 from r.1.1]
    exact congrArg _ (kvk_ints t)
theorem sortI_eq {xs ys : List Int} (p : ys.Perm xs) (h : ys.Pairwise (· ≤ ·)) : ys = sortB (fun x y : Int => decide (x < y)) xs := by
  unfold sortB
  refine List.Perm.eq_of_pairwise (le := fun a b : Int => a ≤ b) (fun a b _ _ h1 h2 => Int.le_antisymm h1 h2) h ?_ (p.trans (List.mergeSort_perm _ _).symm)
  have := List.pairwise_mergeSort (le := fun a b : Int => !decide (b < a)) (fun a b c h1 h2 => by simp at h1 h2 ⊢; omega) (fun a b => by simp; omega) xs
  exact this.imp fun h => by simpa using h
/-- sorted of a new dict with whole numbers as keys -/
theorem xf_sortDn {wd : (List (Int × β) → Prop) → Prop} (hc : X.calm = true) (hm : X.mg "sorted" = none) (h : XDn X z Γ a tyI B wd) (hg : Gl X "sorted" := by rfl) (hs : starEach (a :: []) X.env = (false, eval a X.env) :: starEach [] X.env := by rfl) :
    XF X z Γ (.Call (.Name "sorted" p) [a] [] pos) tyI (fun k => wd fun d => d.length < 64 ∧ k (sortB (fun x y : Int => decide (x < y)) (d.map (·.1)))) := fun G0 H0 σ G H k Q E hw hk =>
  ⟨_, pe_callB (call_sortedDI hc) hg hm (by decide +kernel) (pa_cons re pa_nil hs) (by decide) (by decide) hs rfl, h G0 H0 σ G H _ _ E hw fun G1 H1 q ks d W1 S1 nq gq hq r ⟨hl, h1⟩ => ⟨q, ks, d.map (·.1), rfl, .inl hq, kvk_ints r, by rw [List.length_map]; exact hl, fun ys p hp hs' np => by
    rw [sortI_eq hp hs']
    exact xf_last W1 S1 (pair_ints _ _) h1 hk p np⟩⟩
end
end Zk
/-! TL24: a local set to a dict comprehension; join; more built-ins. -/
namespace Zk
open PySem PySem.Spec L2
section
variable {X : Cx} {z : Zs} {Γ Γ1 : List Sl} {ct : Ct} {a b c e o tg iter kx vx : Expr} {es ifs : List Expr} {scope : Scope} {rest body orelse : List Stmt} {α β γ κ τ ρ φ : Type} {A : Ty α} {B : Ty β} {K : Ty κ} {Rf : Row φ} {pos p p' p2 apos cpos : Pos} {x m : Str} {w : Prop}
structure IsDc (X : Cx) (e kx vx tg iter : Expr) (ifs : List Expr) (scope : Scope) (own : List (Str × Nat)) (pos : Pos) : Prop where
  e : e = .DictComp kx vx [⟨tg, iter, ifs, 0⟩] scope pos
  hc : X.calm = true
  hN : X.N.Nodup
  ok : BlkOk X.N X.env.scope scope own
  hs : ∀ x, foldedSetIterable iter X.env x = pure x
def XDC (X : Cx) (z : Zs) (Γ : List Sl) (e : Expr) (K : Ty κ) [DKey K] (B : Ty β) (w : (List (κ × β) → Prop) → Prop) : Prop :=
  ∃ (kx vx tg iter : Expr) (ifs : List Expr) (scope : Scope) (own : List (Str × Nat)) (pos : Pos), IsDc X e kx vx tg iter ifs scope own pos ∧
    ∀ (G0 H0 : Hp) (σ : L2.St) (G H : Hp) (k : List (κ × β) → Prop) (Q : VK), Ev z G0 H0 G H σ Γ → w k →
      (∀ G' H' q ks d, Wd z G' H' → Stp z G H G' H' → H q = none → G' q = none → H' q = some (.dK ks) → Paired (kvK (K := K) B G') ks d → k d → Q (.ref q) H') → RDc X kx vx tg iter ifs scope own σ H Q
theorem xd_c [DKey K] {w : (List (κ × β) → Prop) → Prop} (h : XDC X z Γ e K B w) : XDn X z Γ e K B w := fun G0 H0 σ G H k Q E hw hk => by
  obtain ⟨kx, vx, tg, iter, ifs, scope, own, pos, i, h⟩ := h
  have ie := i.e
  subst ie
  exact ⟨_, pe_rdc i.hc i.hN i.ok i.hs, h G0 H0 σ G H k Q E hw hk⟩
/-- name = {k: v for ..}, the name a local of its own -/
theorem y_setDC (i : Nat) {wl : (List (Str × β) → Prop) → Prop} {wk : List (Str × β) → Prop} (hi : X.N[i]? = some x) (hx : X.env.scope.names.lookup x = some .local) (he : XDC X z Γ e tyS B wl) (hw : w → wl fun v => Bnd v wk) (hn : ∀ y, XB X z ct (Γ.set i (.md B y)) rest (wk y))
    (hs : swapsWith e (some (.Name x p')) pos.line X.env = pure true := by rfl) : XB X z ct Γ (.Assign [.Name x p'] e pos :: rest) w := by
  obtain ⟨kx, vx, tg, iter, ifs, scope, own, lpos, q, h⟩ := he
  have ie := q.e
  subst ie
  exact fun G0 H0 D σ G H M E hw0 => ⟨_, pss_cons (ps_rdc q.hc q.hN q.ok q.hs hi hx hs) rs, h G0 H0 σ G H wk (fun v H' => RS X rest D (σ.set i (some v)) H') E (hw hw0) fun G1 H1 q ks d W1 S1 nq gq hq r h1 => hn d G0 H0 D _ G1 H1 M (E.takeOwn W1 S1 i nq (SlOk.md_of E nq gq hq r)) h1⟩
theorem xdc_imp [DKey K] {w w' : (List (κ × β) → Prop) → Prop} (h : XDC X z Γ e K B w) (f : ∀ k, w' k → w k) : XDC X z Γ e K B w' := by
  obtain ⟨kx, vx, tg, iter, ifs, scope, own, pos, i, h⟩ := h
  exact ⟨kx, vx, tg, iter, ifs, scope, own, pos, i, fun G0 H0 σ G H k Q E hw hk => h G0 H0 σ G H k Q E (f k hw) hk⟩
variable [DecidableEq κ] [dk : DKey K] {is : List Nat} {ΓT : α → List Sl} {wt : α → (Bool → Prop) → Prop} {wk : α → (κ → Prop) → Prop} {wv : α → (β → Prop) → Prop} {wl : (List α → Prop) → Prop}
theorem xdc_dc (own : List (Str × Nat)) (hc : X.calm = true) (hN : X.N.Nodup) (hi : XI X z Γ tg iter A wl) (ok : blkC X.N X.env.scope scope own = true)
    (hg : ∀ (s : Shared) (H : Hp) (C : Addr) (cl : List (Str × Addr)) (fp : List Addr), XG (X.blk s H scope (compEnvC scope cl C X.env) fp) z (wipeG Γ (own.map (·.2))) tg A is ΓT) (his : ∀ i ∈ is, i ∈ own.map (·.2))
    (ht : ∀ (s : Shared) (H : Hp) (C : Addr) (cl : List (Str × Addr)) (fp : List Addr) (x : α), XTs (X.blk s H scope (compEnvC scope cl C X.env) fp) z (ΓT x) ifs (wt x))
    (hk : ∀ (s : Shared) (H : Hp) (C : Addr) (cl : List (Str × Addr)) (fp : List Addr) (x : α), XE (X.blk s H scope (compEnvC scope cl C X.env) fp) z (ΓT x) kx K (wk x))
    (he : ∀ (s : Shared) (H : Hp) (C : Addr) (cl : List (Str × Addr)) (fp : List Addr) (x : α), XE (X.blk s H scope (compEnvC scope cl C X.env) fp) z (ΓT x) vx B (wv x)) (hs : ∀ x, foldedSetIterable iter X.env x = pure x := by intro _; rfl) :
    XDC X z Γ (.DictComp kx vx [⟨tg, iter, ifs, 0⟩] scope pos) K B (fun k => wl fun xs => WDc xs wt wk wv k) := ⟨_, _, _, _, _, _, own, _, ⟨rfl, hc, hN, blkOk_by ok, hs⟩, fun G0 H0 σ G H k Q E hw hk' => by
    refine hi G0 H0 σ G H _ _ E hw fun G1 H1 J' xs W1 S1 ok' hw' => ?_
    have E1 := E.step W1 S1
    exact dc_J own hg his ht hk he E1 hw' (P := fun _ => True) (fun _ _ _ => trivial) ok'.any fun G' H' q ks d W' S' nq gq hq r hkd => hk' G' H' q ks d W' (S1.trans S') (by
      cases e : H q with
      | none => rfl
      | some o =>
        obtain ⟨o', e'⟩ := S1.t q o e
        rw [nq] at e'
        cases e') gq hq r hkd⟩
theorem xdc_dcm {f : α → κ} {g : α → β} (own : List (Str × Nat)) (hc : X.calm = true) (hN : X.N.Nodup) (hi : XI X z Γ tg iter A wl) (ok : blkC X.N X.env.scope scope own = true)
    (hg : ∀ (s : Shared) (H : Hp) (C : Addr) (cl : List (Str × Addr)) (fp : List Addr), XG (X.blk s H scope (compEnvC scope cl C X.env) fp) z (wipeG Γ (own.map (·.2))) tg A is ΓT) (his : ∀ i ∈ is, i ∈ own.map (·.2))
    (hk : ∀ (s : Shared) (H : Hp) (C : Addr) (cl : List (Str × Addr)) (fp : List Addr) (x : α), XE (X.blk s H scope (compEnvC scope cl C X.env) fp) z (ΓT x) kx K (wk x))
    (he : ∀ (s : Shared) (H : Hp) (C : Addr) (cl : List (Str × Addr)) (fp : List Addr) (x : α), XE (X.blk s H scope (compEnvC scope cl C X.env) fp) z (ΓT x) vx B (wv x)) (h1 : wk = fun x kk => kk (f x)) (h2 : wv = fun x kk => kk (g x)) (hs : ∀ x, foldedSetIterable iter X.env x = pure x := by intro _; rfl) :
    XDC X z Γ (.DictComp kx vx [⟨tg, iter, [], 0⟩] scope pos) K B (fun k => wl fun xs => xs.length < sizeLine ∧ k (dictOf (xs.map fun x => (f x, g x)))) := by
  subst h1 h2
  exact xdc_imp (xdc_dc own hc hN (xi_mono hi) ok hg his (fun _ _ _ _ _ _ => xts_nil) hk he hs) fun k h => ⟨_, h, fun xs q => WDc_map q.1 q.2⟩
end
/-! ### more built-ins -/
section
variable {X : Cx} {z : Zs} {Γ : List Sl} {a b c e o : Expr} {es : List Expr} {α β κ ρ φ : Type} {A : Ty α} {B : Ty β} {pos p p2 apos mpos cpos : Pos} {x m : Str} {ws : (Str → Prop) → Prop} {wl : (List Str → Prop) → Prop} {wn : (List Int → Prop) → Prop}
theorem join_sok (a : Str) (ha : sOk a = true) : ∀ ys : List Str, (∀ y ∈ ys, sOk y = true) → sOk (Str.join a ys) = true
  | [], _ => (by decide +kernel : sOk Str.empty = true)
  | [y], h => h y (List.mem_cons_self ..)
  | x :: y :: r, h => by
    show sOk (x ++ a ++ Str.join a (y :: r)) = true
    exact sok_app (sok_app (h x (List.mem_cons_self ..)) ha) (join_sok a ha (y :: r) fun u hu => h u (List.mem_cons_of_mem _ hu))
theorem xe_join (ho : XE X z Γ o tyS ws) (h : XL X z Γ e tyS wl) (hs : starEach (e :: []) X.env = (false, eval e X.env) :: starEach [] X.env := by rfl)
    (hbase : attributeBase o "join" X.env (eval o X.env) = eval o X.env := by rfl)
    (hfew : ((backTo cpos (starEach (e :: []) X.env)).all (fun x => !x.1) && (backToKw cpos (keywordEach [] X.env)).all (fun x => x.1.isSome)
      && decide ((e :: []).length + ([] : List Keyword).length + (if ([] : List Keyword).isEmpty then 0 else 1) < 30)) = true := by rfl)
    (hline : (apos.endLine == cpos.line) = true := by rfl) :
    XE X z Γ (.Call (.Attribute o "join" apos) [e] [] cpos) tyS (fun k => ws fun s => wl fun ys => (ys.map (·.length)).sum + ys.length * s.length ≤ 16777216 ∧ k (Str.join s ys)) := fun G0 H0 σ G H k Q E hw hk =>
  ⟨_, pe_bm PySem.F.plainAttrs_str PySem.F.slot_str_join PySem.F.type_str_join mt_join re (pa_cons re pa_nil hs) hbase hfew hline hs rfl, ho G0 H0 σ G H _ _ E hw fun G1 H1 v s W1 S1 rv h1 =>
    ⟨by rw [rv.1]; exact rfl, h G0 H0 σ G1 H1 _ _ (E.step W1 S1) h1 fun G2 H2 q vs ys W2 S2 sq r ⟨hl, h2⟩ => ⟨s, q, ys, rv.1, rfl, .inl (by rw [← paired_strs r]; exact SqL.of sq.r), hl, by rw [TL.join_eq]; exact hk G2 H2 _ _ W2 (S1.trans S2) ⟨rfl, join_sok s rv.2 ys (paired_sok r)⟩ h2⟩⟩⟩
def maxL (ns : List Int) : Int := ns.foldl max (ns.headD 0)
def minL (ns : List Int) : Int := ns.foldl min (ns.headD 0)
theorem foldl_max (ns : List Int) : ∀ a : Int, a ≤ ns.foldl max a ∧ (∀ y ∈ ns, y ≤ ns.foldl max a) ∧ (ns.foldl max a = a ∨ ns.foldl max a ∈ ns) := by
  induction ns with
  | nil => exact fun a => ⟨Int.le_refl _, nofun, .inl rfl⟩
  | cons n ns ih =>
    intro a
    obtain ⟨h1, h2, h3⟩ := ih (max a n)
    refine ⟨Int.le_trans (Int.le_max_left a n) h1, fun y hy => ?_, ?_⟩
    · rcases List.mem_cons.mp hy with e | e
      · rw [e]; exact Int.le_trans (Int.le_max_right a n) h1
      · exact h2 y e
    · rcases h3 with e | e
      · show List.foldl max (max a n) ns = a ∨ List.foldl max (max a n) ns ∈ n :: ns
        rw [e]
        by_cases h : a ≤ n
        · rw [Int.max_eq_right h]; exact .inr (List.mem_cons_self ..)
        · rw [Int.max_eq_left (by omega)]; exact .inl rfl
      · exact .inr (List.mem_cons_of_mem _ e)
theorem maxL_spec {ns : List Int} (h : ns ≠ []) : maxL ns ∈ ns ∧ ∀ y ∈ ns, y ≤ maxL ns := by
  cases ns with
  | nil => exact absurd rfl h
  | cons n ns =>
    obtain ⟨h1, h2, h3⟩ := foldl_max (n :: ns) n
    refine ⟨?_, h2⟩
    show List.foldl max n (n :: ns) ∈ n :: ns
    rcases h3 with e | e
    · rw [e]; exact List.mem_cons_self ..
    · exact e
theorem foldl_min (ns : List Int) : ∀ a : Int, ns.foldl min a ≤ a ∧ (∀ y ∈ ns, ns.foldl min a ≤ y) ∧ (ns.foldl min a = a ∨ ns.foldl min a ∈ ns) := by
  induction ns with
  | nil => exact fun a => ⟨Int.le_refl _, nofun, .inl rfl⟩
  | cons n ns ih =>
    intro a
    obtain ⟨h1, h2, h3⟩ := ih (min a n)
    refine ⟨Int.le_trans h1 (Int.min_le_left a n), fun y hy => ?_, ?_⟩
    · rcases List.mem_cons.mp hy with e | e
      · rw [e]; exact Int.le_trans h1 (Int.min_le_right a n)
      · exact h2 y e
    · rcases h3 with e | e
      · show List.foldl min (min a n) ns = a ∨ List.foldl min (min a n) ns ∈ n :: ns
        rw [e]
        by_cases h : a ≤ n
        · rw [Int.min_eq_left h]; exact .inl rfl
        · rw [Int.min_eq_right (by omega)]; exact .inr (List.mem_cons_self ..)
      · exact .inr (List.mem_cons_of_mem _ e)
theorem minL_spec {ns : List Int} (h : ns ≠ []) : minL ns ∈ ns ∧ ∀ y ∈ ns, minL ns ≤ y := by
  cases ns with
  | nil => exact absurd rfl h
  | cons n ns =>
    obtain ⟨h1, h2, h3⟩ := foldl_min (n :: ns) n
    refine ⟨?_, h2⟩
    show List.foldl min n (n :: ns) ∈ n :: ns
    rcases h3 with e | e
    · rw [e]; exact List.mem_cons_self ..
    · exact e
theorem xe_maxL (hc : X.calm = true) (hm : X.mg "max" = none) (h : XL X z Γ a tyI wn) (hg : Gl X "max" := by rfl) (hs : starEach (a :: []) X.env = (false, eval a X.env) :: starEach [] X.env := by rfl) :
    XE X z Γ (.Call (.Name "max" p) [a] [] pos) tyI (fun k => wn fun ns => ns ≠ [] ∧ k (maxL ns)) := fun G0 H0 σ G H k Q E hw hk =>
  ⟨_, pe_callB (cr_max hc) hg hm (by decide +kernel) (pa_cons re pa_nil hs) (by decide) (by decide) hs rfl, h G0 H0 σ G H _ _ E hw fun G1 H1 q vs ns W1 S1 sq r ⟨hl, h1⟩ =>
    ⟨q, ns, rfl, by rw [← paired_ints r]; exact SqL.of sq.r, List.length_pos_iff.mpr hl, fun m m1 m2 => by
      obtain ⟨s1, s2⟩ := maxL_spec hl
      rw [Int.le_antisymm (s2 m m1) (m2 _ s1)]
      exact hk G1 H1 _ _ W1 S1 rfl h1⟩⟩
theorem xe_minL (hc : X.calm = true) (hm : X.mg "min" = none) (h : XL X z Γ a tyI wn) (hg : Gl X "min" := by rfl) (hs : starEach (a :: []) X.env = (false, eval a X.env) :: starEach [] X.env := by rfl) :
    XE X z Γ (.Call (.Name "min" p) [a] [] pos) tyI (fun k => wn fun ns => ns ≠ [] ∧ k (minL ns)) := fun G0 H0 σ G H k Q E hw hk =>
  ⟨_, pe_callB (cr_min hc) hg hm (by decide +kernel) (pa_cons re pa_nil hs) (by decide) (by decide) hs rfl, h G0 H0 σ G H _ _ E hw fun G1 H1 q vs ns W1 S1 sq r ⟨hl, h1⟩ =>
    ⟨q, ns, rfl, by rw [← paired_ints r]; exact SqL.of sq.r, List.length_pos_iff.mpr hl, fun m m1 m2 => by
      obtain ⟨s1, s2⟩ := minL_spec hl
      rw [Int.le_antisymm (m2 _ s1) (s2 m m1)]
      exact hk G1 H1 _ _ W1 S1 rfl h1⟩⟩
end
end Zk
/-! TL25: walks over one's own lists within comprehensions. -/
namespace Zk
open PySem PySem.Spec L2
section
variable {X : Cx} {z : Zs} {Γ Γ1 : List Sl} {ct : Ct} {a b c e o tg iter elt : Expr} {es ifs : List Expr} {scope : Scope} {rest body orelse : List Stmt} {α β γ τ ρ φ : Type} {A : Ty α} {B : Ty β} {A2 : Ty2 α} {B2 : Ty2 β} {pos p p' p2 : Pos} {x m : Str} {w : Prop}
  {wl : (List α → Prop) → Prop}
/-- what is walked, where something stands all the while -/
def XIP (X : Cx) (z : Zs) (Γ : List Sl) (tg e : Expr) {α : Type} (A : Ty α) (w : (List α → Prop) → Prop) : Prop :=
  ∀ (G0 H0 : Hp) (σ : L2.St) (G H : Hp) (k : List α → Prop) (R : It → Hp → Prop), Ev z G0 H0 G H σ Γ → w k → (∀ G' H' J xs (P : Hp → Prop), Wd z G' H' → Stp z G H G' H' → ItOkP z G' J A xs P → (∀ G2 H2, Stp z G' H' G2 H2 → P H2) → k xs → R J H') → RI X tg e σ H R
theorem xip (h : XI X z Γ tg e A wl) : XIP X z Γ tg e A wl := fun G0 H0 σ G H k R E hw hk => h G0 H0 σ G H k R E hw fun G' H' J xs W S ok q => hk G' H' J xs (fun _ => True) W S ok.any (fun _ _ _ => trivial) q
theorem xip_mono (hi : XIP X z Γ tg iter A wl) : XIP X z Γ tg iter A (fun k1 => ∃ k0, wl k0 ∧ ∀ xs, k0 xs → k1 xs) := fun G0 H0 σ G H k R E ⟨k0, h, f⟩ hk => hi G0 H0 σ G H k0 R E h fun G' H' J xs P W S ok hP q => hk G' H' J xs P W S ok hP (f xs q)
theorem xip_own (i : Nat) {xs : List α} (hΓ : Γ[i]? = some (.ml A xs)) (hN : X.N[i]? = some x) (hv : Vis X.env.scope x) (hd : (x == ("__debug__" : Str)) = false := by decide) (hcd : (x == ("__classdict__" : Str)) = false := by decide) : XIP X z Γ tg (.Name x p) A (fun k => k xs) := fun G0 H0 σ G H k R E hw hk => by
  obtain ⟨ov, eo, l, vs, rfl, r, q⟩ := E.at_ hΓ
  refine ⟨_, pi_list (pe_var hN hv hd hcd), _, eo, l, rfl, ⟨vs, SqL.of r.h⟩, hk G H (Itl X.K l) xs (fun H2 => H2 l = some (.lst vs)) E.wd (Stp.refl _ _ _) ⟨fun i x G2 H2 W s p h => ?_, fun i x G2 H2 v H3 W s p h ⟨e, y⟩ => ?_, fun G2 H2 W s p => ?_⟩ (fun G2 H2 S => S.h l _ r.z r.h) hw⟩
  · obtain ⟨v, hv, _⟩ := Paired.at_ q h
    exact ⟨vs, v, SqL.of p, hv⟩
  · obtain ⟨u, hu, ru⟩ := Paired.at_ q h
    have y' := y vs (SqL.of p)
    rw [hu] at y'
    rw [e, ← Option.some.inj y']
    exact ⟨G2, W, Stp.refl _ _ _, A.mono s ru⟩
  · exact ⟨vs, SqL.of p, by rw [q.length]; exact Nat.le_refl _⟩
variable {is : List Nat} {ΓT : α → List Sl} {wt : α → (Bool → Prop) → Prop} {we : α → (β → Prop) → Prop}
theorem xq_lc (own : List (Str × Nat)) (hc : X.calm = true) (hN : X.N.Nodup) (hi : XIP X z Γ tg iter A wl) (ok : blkC X.N X.env.scope scope own = true)
    (hg : ∀ (s : Shared) (H : Hp) (C : Addr) (cl : List (Str × Addr)) (fp : List Addr), XG (X.blk s H scope (compEnvC scope cl C X.env) fp) z (wipeG Γ (own.map (·.2))) tg A is ΓT) (his : ∀ i ∈ is, i ∈ own.map (·.2))
    (ht : ∀ (s : Shared) (H : Hp) (C : Addr) (cl : List (Str × Addr)) (fp : List Addr) (x : α), XTs (X.blk s H scope (compEnvC scope cl C X.env) fp) z (ΓT x) ifs (wt x))
    (he : ∀ (s : Shared) (H : Hp) (C : Addr) (cl : List (Str × Addr)) (fp : List Addr) (x : α), XE (X.blk s H scope (compEnvC scope cl C X.env) fp) z (ΓT x) elt B (we x)) (hs : ∀ x, foldedSetIterable iter X.env x = pure x := by intro _; rfl) :
    XFC X z Γ (.ListComp elt [⟨tg, iter, ifs, 0⟩] scope pos) B (fun k => wl fun xs => WLc xs wt we k) := ⟨_, _, _, _, _, own, _, ⟨rfl, hc, hN, blkOk_by ok, hs⟩, fun G0 H0 σ G H k Q E hw hk => by
  refine hi G0 H0 σ G H _ _ E hw fun G1 H1 J' xs P W1 S1 ok hP ⟨hsz, I, i0, it, ie⟩ => fun q nq => ?_
  have nq0 : H q = none := by
    cases e : H q with
    | none => rfl
    | some o =>
      obtain ⟨o', e'⟩ := S1.t q o e
      rw [nq] at e'
      cases e'
  have E1 := E.step W1 S1
  refine ⟨fun i m H' => ∃ G' vs acc, i ≤ xs.length ∧ m = xs.length - i ∧ Wd z G' H' ∧ Stp z G1 H1 G' H' ∧ G' q = none ∧ H' q = some (.lst vs) ∧ Paired (B.rep G') vs acc ∧ acc.length ≤ i ∧ I i acc,
    ⟨_, G1, [], [], Nat.zero_le _, rfl, W1.own nq, Stp.own nq, W1.gh.free nq, upd_same, .nil, Nat.le_refl _, i0⟩, ?_⟩
  rintro i m H' ⟨G', vs, acc, hi, rfl, W', S', gq, hq, r, hla, hI⟩
  have E' := E1.step W' S'
  by_cases hlt : i < xs.length
  · refine .inr ⟨ok.go i xs[i] G' H' W' S'.g (hP _ _ S') (by simp [hlt]), fun H3 => ∃ G3 vs acc, Wd z G3 H3 ∧ Stp z G1 H1 G3 H3 ∧ G3 q = none ∧ H3 q = some (.lst vs) ∧ Paired (B.rep G3) vs acc ∧ acc.length ≤ i + 1 ∧ I (i + 1) acc,
      fun H3 ⟨G3, vs3, acc3, W3, S3, g3, h3, r3, l3, q3⟩ => ⟨xs.length - (i + 1), by omega, G3, vs3, acc3, hlt, rfl, W3, S3, g3, h3, r3, l3, q3⟩, fun v H3 y => ?_⟩
    obtain ⟨G3, W3, S3, r3⟩ := ok.yld i xs[i] G' H' v H3 W' S'.g (hP _ _ S') (by simp [hlt]) y
    have E3 := (E'.step W3 S3).wipe (own.map (·.2))
    intro s Hb C cl fp
    refine hg s Hb C cl fp G0 H0 _ G3 H3 v xs[i] _ E3 r3 fun σ4 E4 hσ => ⟨(wipe_eq his hσ).trans wipe_wipe, ?_⟩
    intro s Hb C cl fp
    refine ht s Hb C cl fp xs[i] G0 H0 σ4 G3 H3 _ _ E4 (it i xs[i] acc (by simp [hlt]) hI) fun G5 H5 b W5 S5 g5 => ?_
    have S35 := S3.trans S5
    have gq5 : G5 q = none := S35.n q _ hq gq
    have hq5 : H5 q = some (.lst vs) := S35.h q _ (E1.znew nq) hq
    cases b with
    | false =>
      exact ⟨G5, vs, acc, W5, S'.trans S35, gq5, hq5, Paired.mono (fun _ _ => B.mono S35.g) r, Nat.le_succ_of_le hla, g5⟩
    | true =>
      intro s Hb C cl fp
      refine he s Hb C cl fp xs[i] G0 H0 σ4 G5 H5 _ _ (E4.step W5 S5) g5 fun G6 H6 u y W6 S6 r6 g6 => ?_
      have S36 := S35.trans S6
      have gq6 : G6 q = none := S36.n q _ hq gq
      have hq6 : H6 q = some (.lst vs) := S36.h q _ (E1.znew nq) hq
      have st : Stp z G1 H1 G6 (upd H6 q (.lst (vs ++ [u]))) := by
        have S16 := S'.trans S36
        have ne : ∀ {a : Addr} {w : HO}, H1 a = some w → a ≠ q := fun h => ne_of_none h nq
        exact ⟨S16.g, fun a w hz h => by rw [upd_ne (ne h)]; exact S16.h a w hz h, S16.n, fun a w h => by
          obtain ⟨o', e⟩ := S16.t a w h
          exact ⟨o', by rw [upd_ne (ne h)]; exact e⟩⟩
      exact ⟨vs, hq6, by rw [r.length]; omega, G6, vs ++ [u], acc ++ [y], W6.set gq6 (E1.znew nq), st, gq6, upd_same, Paired.app (Paired.mono (fun _ _ => B.mono S36.g) r) (.cons r6 .nil), by rw [List.length_append]; show acc.length + 1 ≤ _; omega, g6⟩
  · have e : i = xs.length := by omega
    subst e
    exact .inl ⟨ok.stop G' H' W' S'.g (hP _ _ S'), hk G' H' q vs acc W' (S1.trans S') nq0 gq hq r (ie acc hI)⟩⟩
theorem xq_lcm {f : α → β} (own : List (Str × Nat)) (hc : X.calm = true) (hN : X.N.Nodup) (hi : XIP X z Γ tg iter A wl) (ok : blkC X.N X.env.scope scope own = true)
    (hg : ∀ (s : Shared) (H : Hp) (C : Addr) (cl : List (Str × Addr)) (fp : List Addr), XG (X.blk s H scope (compEnvC scope cl C X.env) fp) z (wipeG Γ (own.map (·.2))) tg A is ΓT) (his : ∀ i ∈ is, i ∈ own.map (·.2))
    (he : ∀ (s : Shared) (H : Hp) (C : Addr) (cl : List (Str × Addr)) (fp : List Addr) (x : α), XE (X.blk s H scope (compEnvC scope cl C X.env) fp) z (ΓT x) elt B (we x)) (h2 : we = fun x kk => kk (f x)) (hs : ∀ x, foldedSetIterable iter X.env x = pure x := by intro _; rfl) :
    XFC X z Γ (.ListComp elt [⟨tg, iter, [], 0⟩] scope pos) B (fun k => wl fun xs => xs.length < sizeLine ∧ k (xs.map f)) := by
  subst h2
  exact xfc_imp (xq_lc own hc hN (xip_mono hi) ok hg his (fun _ _ _ _ _ _ => xts_nil) he hs) fun k h => ⟨_, h, fun xs q => WLc_map q.1 q.2⟩
theorem xq_lcf {f : α → β} {g : α → Bool} (own : List (Str × Nat)) (hc : X.calm = true) (hN : X.N.Nodup) (hi : XIP X z Γ tg iter A wl) (ok : blkC X.N X.env.scope scope own = true)
    (hg : ∀ (s : Shared) (H : Hp) (C : Addr) (cl : List (Str × Addr)) (fp : List Addr), XG (X.blk s H scope (compEnvC scope cl C X.env) fp) z (wipeG Γ (own.map (·.2))) tg A is ΓT) (his : ∀ i ∈ is, i ∈ own.map (·.2))
    (ht : ∀ (s : Shared) (H : Hp) (C : Addr) (cl : List (Str × Addr)) (fp : List Addr) (x : α), XTs (X.blk s H scope (compEnvC scope cl C X.env) fp) z (ΓT x) ifs (wt x))
    (he : ∀ (s : Shared) (H : Hp) (C : Addr) (cl : List (Str × Addr)) (fp : List Addr) (x : α), XE (X.blk s H scope (compEnvC scope cl C X.env) fp) z (ΓT x) elt B (we x)) (h1 : wt = fun x kk => kk (g x)) (h2 : we = fun x kk => kk (f x)) (hs : ∀ x, foldedSetIterable iter X.env x = pure x := by intro _; rfl) :
    XFC X z Γ (.ListComp elt [⟨tg, iter, ifs, 0⟩] scope pos) B (fun k => wl fun xs => xs.length < sizeLine ∧ k ((xs.filter g).map f)) := by
  subst h1 h2
  exact xfc_imp (xq_lc own hc hN (xip_mono hi) ok hg his ht he hs) fun k h => ⟨_, h, fun xs q => WLc_filter q.1 q.2⟩
end
/-! ### a field stored again -/
section
variable {X : Cx} {z : Zs} {Γ : List Sl} {ct : Ct} {e : Expr} {rest : List Stmt} {α : Type} {A : Ty α} {pos p' : Pos} {m : Str} {w : Prop} {wa : (α → Prop) → Prop}
theorem fr_set {G : Hp} {v : V} {y : α} (hv : A.rep G v y) : ∀ {vs : List (Str × V)} {fs : List (Str × Fz)} {j : Nat} {g : Fz}, FR G vs fs → (fs.map (·.1)).Nodup → fs[j]? = some (m, g) → FR G (putF m v vs) (fs.set j (m, ⟨A, y⟩))
  | _, _, j, _, .nil, _, h => by simp at h
  | (a, u) :: vs, _, 0, g, .cons (b := f) r t, _, h => by
    have e := Option.some.inj (show some _ = some (m, g) from h)
    have e1 : a = m := r.1.trans (congrArg Prod.fst e)
    show FR G (if a = m then (a, v) :: vs else (a, u) :: putF m v vs) ((m, ⟨A, y⟩) :: _)
    rw [if_pos e1]
    exact .cons ⟨e1, hv⟩ t
  | (a, u) :: vs, _, j + 1, g, .cons (b := f) (m := fs) r t, nd, h => by
    have h' : fs[j]? = some (m, g) := h
    have hne : a ≠ m := by
      intro e
      refine (List.nodup_cons.mp nd).1 ?_
      show f.1 ∈ fs.map (·.1)
      rw [← r.1, show (a, u).1 = m from e]
      exact List.mem_map.mpr ⟨_, List.mem_of_getElem? h', rfl⟩
    show FR G (if a = m then (a, v) :: vs else (a, u) :: putF m v vs) (f :: fs.set j (m, ⟨A, y⟩))
    rw [if_neg hne]
    exact .cons r (fr_set hv t (List.nodup_cons.mp nd).2 h')
theorem y_fldSet {fs : List (Str × Fz)} {sx : Str} {sp : Pos} {q C : Addr} {g : Fz} {wk : α → Prop} (i j : Nat) (hΓ : Γ[i]? = some (.ob q C fs)) (hN : X.N[i]? = some sx) (hv : Vis X.env.scope sx) (hc : Cls X.K C) (hn : NoAttr X.K C m) (hj : fs[j]? = some (m, g)) (hnd : (fs.map (·.1)).Nodup) (hl : fs.length < 1000)
    (he : XE X z Γ e A wa) (hw : w → wa fun v => Bnd v wk) (hr : ∀ y, XB X z ct (Γ.set i (.ob q C (fs.set j (m, ⟨A, y⟩)))) rest (wk y)) (hs : swapsWith e (some (.Attribute (.Name sx sp) m p')) pos.line X.env = pure false := by rfl)
    (hd : (sx == ("__debug__" : Str)) = false := by decide) (hcd : (sx == ("__classdict__" : Str)) = false := by decide) :
    XB X z ct Γ (.Assign [.Attribute (.Name sx sp) m p'] e pos :: rest) w := fun G0 H0 D σ G H M E hw0 => by
  obtain ⟨ov, eo, dx, vs, rfl, r, q'⟩ := E.at_ hΓ
  refine ⟨_, pss_cons (ps_fld (pe_var hN hv hd hcd) re hs) rs, he G0 H0 σ G H _ _ E (hw hw0) fun G1 H1 v y W1 S1 ry g1 => ?_⟩
  have r1 := r.step S1
  refine ⟨_, eo, q, C, dx, vs, rfl, r1.h, hc, hn, by rw [fr_len q']; exact hl, ?_⟩
  exact hr y G0 H0 D σ G1 _ M ((E.step W1 S1).mut hΓ eo rfl r1 ⟨dx, _, rfl, ⟨r1.g, r1.z, r1.h0, upd_same⟩, fr_set ry (FR.mono S1.g q') hnd hj⟩) g1
end
end Zk
/-! TL26: sets of texts; sorted(set(xs)). -/
namespace Zk
open PySem PySem.Spec L2

/-- the set at a has the texts l -/
def TxR (P : Program) (w : World) (h : Heap) (a : Addr) (l : List Str) : Prop :=
  ∃ D : Froz.SD, h.get? a = some (Froz.sObj "set" D) ∧ Froz.TxOk P w D l ∧ l.Nodup ∧ Ris D.2.2.place.toList ∧ (w.params.followText "set-order" = true ∨ D.2.2.led = true)
theorem TxR.at {P : Program} {w : World} {h h2 : Heap} {a : Addr} {l : List Str} (R : TxR P w h a l) (k : ∀ o, h.get? a = some o → h2.get? a = some o) : TxR P w h2 a l := by
  obtain ⟨D, e, r⟩ := R
  exact ⟨D, k _ e, r⟩
theorem tail_risled {w : World} {ep : Nat} {es : Array (Int × Value)} {t : SetTable} {b : Bool} (r : Ris t.place.toList) (hl : w.params.followText "set-order" = true ∨ t.led = true) :
    Ris (Froz.tailTx ep es t b).2.2.place.toList ∧ (w.params.followText "set-order" = true ∨ (Froz.tailTx ep es t b).2.2.led = true) := by
  unfold Froz.tailTx
  split
  · exact ⟨relayAll_ris t es _, hl.imp id fun z => by rw [relayAll_led t es _]; exact z⟩
  · exact ⟨r, hl⟩
theorem addTx_risled {w : World} {h : Int} {v : Value} {D : Froz.SD} (r : Ris D.2.2.place.toList) (hl : w.params.followText "set-order" = true ∨ D.2.2.led = true) :
    Ris (Froz.addTx h v D).2.2.place.toList ∧ (w.params.followText "set-order" = true ∨ (Froz.addTx h v D).2.2.led = true) := by
  unfold Froz.addTx
  have r1 := layNew_ris D.2.2 D.1 h v r
  have l1 := layNew_led D.2.2 D.1 h v
  refine tail_risled ?_ ?_
  · split <;> exact r1
  · refine hl.imp id fun z => ?_
    split <;> (show (layNew D.2.2 D.1 h v).2.1.led = true; rw [l1]; exact z)
/-- one more text -/
def addU (l : List Str) (k : Str) : List Str := if k ∈ l then l else k :: l
theorem addU_nodup {l : List Str} (h : l.Nodup) (k : Str) : (addU l k).Nodup := by
  unfold addU
  split
  · exact h
  · rename_i hk; exact List.nodup_cons.mpr ⟨hk, h⟩
theorem addU_len (l : List Str) (k : Str) : (addU l k).length ≤ l.length + 1 := by
  unfold addU
  split
  · omega
  · simp
theorem addU_mem (l : List Str) (k x : Str) : x ∈ addU l k ↔ x = k ∨ x ∈ l := by
  unfold addU
  split
  · rename_i hk
    exact ⟨.inr, fun h => h.elim (fun e => e ▸ hk) id⟩
  · exact List.mem_cons
def uniq (xs : List Str) : List Str := xs.foldl addU []
theorem uniq_snoc (xs : List Str) (k : Str) : uniq (xs ++ [k]) = addU (uniq xs) k := by
  unfold uniq
  rw [List.foldl_append]
  rfl
theorem foldU_nodup : ∀ (xs l : List Str), l.Nodup → (xs.foldl addU l).Nodup
  | [], _, h => h
  | x :: xs, l, h => foldU_nodup xs (addU l x) (addU_nodup h x)
theorem foldU_len : ∀ (xs l : List Str), (xs.foldl addU l).length ≤ l.length + xs.length
  | [], _ => Nat.le_refl _
  | x :: xs, l => by
    have h1 := foldU_len xs (addU l x)
    have h2 := addU_len l x
    rw [List.foldl_cons, List.length_cons]
    omega
theorem foldU_mem (t : Str) : ∀ (xs l : List Str), t ∈ xs.foldl addU l ↔ t ∈ xs ∨ t ∈ l
  | [], _ => by simp
  | x :: xs, l => by
    rw [List.foldl_cons, foldU_mem t xs (addU l x), addU_mem, List.mem_cons]
    constructor
    · rintro (h | h | h)
      · exact .inl (.inr h)
      · exact .inl (.inl h)
      · exact .inr h
    · rintro ((h | h) | h)
      · exact .inr (.inl h)
      · exact .inl h
      · exact .inr (.inr h)
theorem uniq_nodup (xs : List Str) : (uniq xs).Nodup := foldU_nodup xs [] .nil
theorem uniq_len (xs : List Str) : (uniq xs).length ≤ xs.length := by have := foldU_len xs []; simpa [uniq] using this
theorem uniq_mem {t : Str} {xs : List Str} : t ∈ uniq xs ↔ t ∈ xs := by
  have := foldU_mem t xs []
  simpa [uniq] using this
section
variable {P : Program} {w : World} {A : Around} {E : Value → Shared → Prop} {s : Shared} {a : Addr} {l : List Str}
theorem tx_add {k : Str} {u : Tok} {Q : Bool → Shared → Prop} (R : TxR P w s.heap a l) (room : l.length + 1 < scanBound)
    (hQ : ∀ b h2, Heap.SameBut a s.heap h2 → TxR P w h2 a (addU l k) → Q b { s with heap := h2 }) : wpAny (model P w) A (setAddHashed a (.str k u) (hashStr w k)) Q E s := by
  obtain ⟨D, ho, F, nd, r, hl⟩ := R
  by_cases hk : k ∈ l
  · have q := hQ false s.heap (Heap.SameBut.refl a s.heap) (by unfold addU; rw [if_pos hk]; exact ⟨D, ho, F, nd, r, hl⟩)
    obtain ⟨es, ep, t⟩ := D
    have hd : (Froz.sObj "set" (es, ep, t)).data = .set es ep t := rfl
    have hf : t.fits es.size = true := F.fit
    have hsz : es.size = l.length := F.sz
    have hel : ElemsOf (strKind P w) es.toList := F.el
    have hkey := Froz.is_str (P := P) (w := w) k u
    unfold setAddHashed setAddHashedIn
    refine wpAny_holding (wpAny_bind (wpAny_setState_of ho hd hf ?_)); dsimp only
    rw [byScan_of rfl (show es.size < scanBound by omega) hel]; simp only [↓reduceIte]
    unfold setAddByScan; refine wpAny_bind ?_; refine wpAny_bind (wpAny_rule ?_)
    refine wpAny_bind (wpAny_setScan_of (knd := strKind P w) (k := k) hkey ho hd hf hel ?_)
    cases hfi : List.findIdx? (fun e => (strKind P w).is k e.2) es.toList with
    | some j => dsimp only; exact wpAny_pure (wpAny_pure q)
    | none =>
      obtain ⟨e, he, z⟩ := (F.mem k).mp hk
      have c := List.findIdx?_eq_none_iff.mp hfi e he
      rw [z] at c; cases c
  · refine Froz.add_x ho F hk room (hQ true _ (Heap.SameBut.update s.heap a _) ?_)
    obtain ⟨r2, l2⟩ := addTx_risled (w := w) (h := hashStr w k) (v := .str k u) r hl
    unfold addU; rw [if_neg hk]
    exact ⟨_, Froz.get_upd _ ho rfl, Froz.add_ok u F, List.nodup_cons.mpr ⟨hk, nd⟩, r2, l2⟩
/-- the walk that fills the set -/
theorem tx_loop {I : Addr} {fp wr : List Addr} {G : Array GenState → Array GenState → Prop} {n : Nat} {Pv : Nat → Value → Prop} {St : Nat → Shared → Prop} {R : Result → Shared → Prop}
    (W : WalksS P w A.in1 I fp wr G n Pv St) (hSf : a ∉ fp) (xs : List Str) (hn : xs.length = n) (hval : ∀ i v, Pv i v → ∃ x t, xs[i]? = some x ∧ v = .str x t) (hb : n + 1 < scanBound) :
    ∀ (k i : Nat) (s : Shared), n - i = k → i ≤ n → St i s → TxR P w s.heap a (uniq (xs.take i)) →
      (∀ s2, Moved (a :: wr) G s s2 → TxR P w s2.heap a (uniq xs) → R (.ok (.ret .none)) s2) → codeAny (model P w) A (.builtin "set.update.loop" ⟨[.ref a, .ref I], []⟩) R s := by
  have hSw : a ∉ wr := fun h => hSf (W.sub _ h)
  have more : ∀ b ∈ wr, b ∈ a :: wr := fun b hb => List.mem_cons_of_mem _ hb
  intro k
  induction k with
  | zero =>
    intro i s hk hi hst hS hR
    have hin : i = n := by omega
    subst hin
    refine codeAny_builtin PyProof.Rows.F.entry_set_update_loop ?_; rw [Around.under_plainId PyProof.Rows.F.plain_set_update_loop _]
    show wpAny _ A.in1 (pyNext (.ref I) >>= _) _ _ s; refine wpAny_bind (W.done s _ _ hst fun s2 hm => ?_)
    rw [List.take_of_length_le (by omega)] at hS
    show wpAny _ A.in1 (ret Value.none) _ _ s2
    exact wpAny_pure (hR s2 (hm.mono more) (hS.at fun o e => hm.heap a o hSw e))
  | succ k ih =>
    intro i s hk hi hst hS hR
    have hlt : i < n := by omega
    refine codeAny_builtin PyProof.Rows.F.entry_set_update_loop ?_; rw [Around.under_plainId PyProof.Rows.F.plain_set_update_loop _]
    show wpAny _ A.in1 (pyNext (.ref I) >>= _) _ _ s; refine wpAny_bind (W.item i s _ _ hlt hst fun v s2 hP hst2 hm => ?_)
    obtain ⟨x, t, hx, rfl⟩ := hval i v hP
    have hS2 : TxR P w s2.heap a (uniq (xs.take i)) := hS.at fun o e => hm.heap a o hSw e
    show wpAny _ A.in1 (holding [Value.str x t] (setAdd a (.str x t)) >>= _) _ _ s2
    refine wpAny_bind (wpAny_holding ?_); unfold setAdd; refine wpAny_holding ?_
    refine wpAny_bind ((strKind P w).pyHash (k := x) (Froz.is_str x t) ?_)
    have hroom : (uniq (xs.take i)).length + 1 < scanBound := by
      have := uniq_len (xs.take i)
      rw [List.length_take] at this
      omega
    refine tx_add (s := { s2 with toks := s2.toks + 1 }) (hS2.at fun o e => e) hroom fun b h2 sb R2 => ?_
    have hSi : TxR P w h2 a (uniq (xs.take (i + 1))) := by
      rw [List.take_add_one, hx]
      show TxR P w h2 a (uniq (xs.take i ++ [x]))
      rw [uniq_snoc]
      exact R2
    refine wpAny_pure ⟨plainId_quiet PyProof.Rows.F.plain_set_update_loop _, ih (i + 1) _ (by omega) hlt (W.frame _ s2 _ _ hst2 (Nat.le_succ _) fun b hb o e => ?_) hSi fun s3 hm3 hS3 => ?_⟩
    · rw [sb.2 b (fun h : b = a => hSf (h ▸ hb))]; exact e
    · refine hR s3 (Moved.trans W.gtrans ((hm.mono more).then_heap (Nat.le_succ _) fun b o hb e => ?_) hm3) hS3
      rw [sb.2 b (fun h : b = a => hb (by rw [h]; exact List.mem_cons_self))]; exact e
/-- the new set, its way of order known -/
theorem set_fresh (x : Value) {Q1 : Value → Shared → Prop} (h : Q1 (.ref s.heap.objs.size) { s with heap := s.heap.push (Froz.sObj "set" (#[], 0, .fresh 0 0 (!w.params.followText "set-order"))) }) :
    codeAny (model P w) A (.call (.builtin "set.__new__") ⟨[.type "set", x], []⟩) (wants Q1 E) s := by
  refine codeAny_of_tree ?_
  show wpAny _ A.in1 (do checkBuiltinCall "set.__new__" ⟨[.type "set", x], []⟩; again (.builtin "set.__new__" ⟨[.type "set", x], []⟩)) _ _ s
  refine wpAny_bind (wpAny_of_eq (PySem.F.newCall_set_1 x) (wpAny_pure ⟨plainId_quiet PySem.F.plain_set_new _, codeAny_builtin PySem.F.entry_set_new ?_⟩))
  rw [Around.under_plainId PySem.F.plain_set_new _]; unfold Builtin.«set.__new__» Builtin.Frozenset.newClass
  have hsub := sub_set_self
  obtain ⟨hp, g, d, tk, os⟩ := s
  dsimp only
  wp_walk
  refine wpAny_askSetting (wpAny_pure ?_); dsimp only
  simp only [newObj]
  refine wpAny_bind (wpAny_alloc (wpAny_pure ?_)); exact wpAny_pure h
theorem fresh_ok : TxR P w (s.heap.push (Froz.sObj "set" (#[], 0, .fresh 0 0 (!w.params.followText "set-order")))) s.heap.objs.size [] :=
  ⟨_, Heap.get?_push_size _ rfl, Froz.TxOk.nil rfl, .nil, List.Pairwise.nil, by
    show _ ∨ (!w.params.followText "set-order") = true
    cases w.params.followText "set-order" <;> simp⟩
theorem call_setL {q : Addr} {items : Array Value} {xs : List Str} {Q : Value → Shared → Prop} (hh : A.handled = none) (hl : s.heap.IsList q items) (hn : xs.length = items.size)
    (hx : ∀ (i : Nat) (v : Value), items[i]? = some v → ∃ x t, xs[i]? = some x ∧ v = .str x t) (hb : items.size + 1 < scanBound)
    (h : ∀ (h2 : Heap) (tk : Nat), TxR P w h2 s.heap.objs.size (uniq xs) → (∀ b o, b < s.heap.objs.size → s.heap.get? b = some o → h2.get? b = some o) → Q (.ref s.heap.objs.size) { s with heap := h2, toks := tk }) :
    wpAny (model P w) A (call (.type "set") [.ref q]) Q E s := by
  obtain ⟨c, tl, hmro⟩ := PySem.F.called_set.mro
  have hmade := PySem.F.called_set.made
  have hsub := PySem.F.called_set.sub
  refine wpAny_call (codeAny_of_tree ?_)
  show wpAny _ _ (callAny (.type "set") _) _ _ _
  refine wpAny_pure ⟨Code.quiet_builtin _ (by decide +kernel), codeAny_builtin PySem.F.entry_type_call ?_⟩
  rw [Around.under_plain (weight_type_call_type "set" [.ref q] []) rfl]
  have h1 := PySem.F.called_set.notType
  have h2 := PySem.F.called_set.canCreate
  have hct := PySem.F.typeCall_set_1 (.ref q)
  repeat (any_goals (first | assumption | wp_step))
  let s0 : Shared := { s with heap := s.heap.push (Froz.sObj "set" (#[], 0, .fresh 0 0 (!w.params.followText "set-order"))) }
  refine codeAny_mono (set_fresh (.ref q) (E := E) (Q1 := fun obj z => obj = .ref s.heap.objs.size ∧ z = s0) ⟨rfl, rfl⟩) fun r z hr => ?_
  cases r with
  | error e => exact hr
  | ok fl =>
    cases fl with
    | ret obj =>
      obtain ⟨rfl, rfl⟩ := hr
      have hS : s0.heap.get? s.heap.objs.size = some (Froz.sObj "set" (#[], 0, .fresh 0 0 (!w.params.followText "set-order"))) := Heap.get?_push_size _ rfl
      have hT : Shared.TypeIs s0 (.ref s.heap.objs.size) "set" := ⟨_, hS, rfl⟩
      have hli := PySem.F.called_set.init.lookup
      have hbi := PySem.F.called_set.init.bind (.ref s.heap.objs.size)
      repeat (any_goals (first | assumption | wp_step))
      refine codeAny_mono (codeAny_call_builtin (R := wants (fun r z => r = .none ∧ ∃ h2 tk, z = { s with heap := h2, toks := tk } ∧ TxR P w h2 s.heap.objs.size (uniq xs) ∧
        (∀ b o, b < s.heap.objs.size → s.heap.get? b = some o → h2.get? b = some o)) E) PySem.F.called_set.init.plain PySem.F.entry_set_init (check_set_init_1 hT ?_)) fun r3 z3 hr3 => ?_
      · obtain ⟨ol, hol, hcl, nl, hdl⟩ := hl
        obtain ⟨ocls, odict, odata, oslots⟩ := ol
        simp only at hcl hdl; subst hcl; subst hdl
        have hol2 : s0.heap.get? q = some { cls := .type "list", dict := odict, data := .seq items nl, slots := oslots } := Heap.get?_push_of_some _ hol
        have b1 := PySem.F.sub_list_set
        have b2 := PySem.F.sub_list_frozenset
        have b3 : (Value.type "list" == Value.type "dict") = false := by decide
        have hl1 : s0.heap.IsList q items := ⟨_, hol2, rfl, nl, rfl⟩
        unfold Builtin.«set.__init__» noKeywords Builtin.Frozenset.updateFrom
        generalize hPI : pyIter = PI
        wp_walk
        subst hPI
        refine wpAny_pyIter_list hl1 ?_
        refine wpAny_bind (wpAny_runValue ?_)
        have hqs : q < s.heap.objs.size := Heap.lt_size hol
        have hh3 : A.in1.in1.in1.handled = none := by simp [hh]
        have z0 : s0.heap.objs.size = s.heap.objs.size + 1 := Heap.size_push _ _
        have hqI : q ≠ s0.heap.objs.size := Nat.ne_of_lt (by rw [z0]; exact Nat.lt_succ_of_lt hqs)
        have hSf : s.heap.objs.size ∉ [s0.heap.objs.size, q] := by
          simp only [List.mem_cons, List.not_mem_nil, or_false, not_or]
          exact ⟨Nat.ne_of_lt (by rw [z0]; exact Nat.lt_succ_self _), Nat.ne_of_gt hqs⟩
        refine tx_loop ((Walks.list hh3 _ q hqI items).toS) hSf xs hn hx hb (items.size - 0) 0 _ (by omega) (Nat.zero_le _) ⟨⟨_, Heap.get?_push_size _ rfl, rfl, rfl⟩, (hl1.push _)⟩ ?_ ?_
        · exact fresh_ok.at fun o e => Heap.get?_push_of_some _ e
        · intro z hm hz
          obtain ⟨h2, g2, d2, tk2, os2⟩ := z
          have eg : g2 = s.gens := hm.gens
          have ed : d2 = s.drawn := hm.drawn
          have eo : os2 = s.os := hm.os
          subst eg ed eo
          show wpAny _ _ _ _ _ _
          refine wpAny_pure ?_
          show wpAny _ _ (ret Value.none) _ _ _
          refine wpAny_pure ⟨rfl, h2, tk2, rfl, hz, fun b o hb e => ?_⟩
          refine hm.heap b o ?_ (Heap.get?_push_of_some _ (Heap.get?_push_of_some _ e))
          simp only [List.mem_cons, List.not_mem_nil, or_false, not_or]
          exact ⟨Nat.ne_of_lt hb, Nat.ne_of_lt (by rw [z0]; exact Nat.lt_succ_of_lt hb)⟩
      · cases r3 with
        | error e => exact hr3
        | ok fl3 =>
          cases fl3 with
          | ret r =>
            obtain ⟨rfl, h2, tk, rfl, hS2, hk2⟩ := hr3
            repeat (any_goals (first | assumption | wp_step))
            exact h _ _ hS2 hk2
          | _ => exact hr3.elim
    | _ => exact hr.elim
theorem sub_tuple_set : isSubtype (.type "tuple") (.type "set") = pure false := by rw [isSubtype_type]; kernel_rfl
theorem sub_tuple_frozenset : isSubtype (.type "tuple") (.type "frozenset") = pure false := by rw [isSubtype_type]; kernel_rfl
theorem call_setP {q : Addr} {items : Array Value} {xs : List Str} {Q : Value → Shared → Prop} (hh : A.handled = none) (hl : s.heap.IsTuple q items) (hn : xs.length = items.size)
    (hx : ∀ (i : Nat) (v : Value), items[i]? = some v → ∃ x t, xs[i]? = some x ∧ v = .str x t) (hb : items.size + 1 < scanBound)
    (h : ∀ (h2 : Heap) (tk : Nat), TxR P w h2 s.heap.objs.size (uniq xs) → (∀ b o, b < s.heap.objs.size → s.heap.get? b = some o → h2.get? b = some o) → Q (.ref s.heap.objs.size) { s with heap := h2, toks := tk }) :
    wpAny (model P w) A (call (.type "set") [.ref q]) Q E s := by
  obtain ⟨c, tl, hmro⟩ := PySem.F.called_set.mro
  have hmade := PySem.F.called_set.made
  have hsub := PySem.F.called_set.sub
  refine wpAny_call (codeAny_of_tree ?_)
  show wpAny _ _ (callAny (.type "set") _) _ _ _
  refine wpAny_pure ⟨Code.quiet_builtin _ (by decide +kernel), codeAny_builtin PySem.F.entry_type_call ?_⟩
  rw [Around.under_plain (weight_type_call_type "set" [.ref q] []) rfl]
  have h1 := PySem.F.called_set.notType
  have h2 := PySem.F.called_set.canCreate
  have hct := PySem.F.typeCall_set_1 (.ref q)
  repeat (any_goals (first | assumption | wp_step))
  let s0 : Shared := { s with heap := s.heap.push (Froz.sObj "set" (#[], 0, .fresh 0 0 (!w.params.followText "set-order"))) }
  refine codeAny_mono (set_fresh (.ref q) (E := E) (Q1 := fun obj z => obj = .ref s.heap.objs.size ∧ z = s0) ⟨rfl, rfl⟩) fun r z hr => ?_
  cases r with
  | error e => exact hr
  | ok fl =>
    cases fl with
    | ret obj =>
      obtain ⟨rfl, rfl⟩ := hr
      have hS : s0.heap.get? s.heap.objs.size = some (Froz.sObj "set" (#[], 0, .fresh 0 0 (!w.params.followText "set-order"))) := Heap.get?_push_size _ rfl
      have hT : Shared.TypeIs s0 (.ref s.heap.objs.size) "set" := ⟨_, hS, rfl⟩
      have hli := PySem.F.called_set.init.lookup
      have hbi := PySem.F.called_set.init.bind (.ref s.heap.objs.size)
      repeat (any_goals (first | assumption | wp_step))
      refine codeAny_mono (codeAny_call_builtin (R := wants (fun r z => r = .none ∧ ∃ h2 tk, z = { s with heap := h2, toks := tk } ∧ TxR P w h2 s.heap.objs.size (uniq xs) ∧
        (∀ b o, b < s.heap.objs.size → s.heap.get? b = some o → h2.get? b = some o)) E) PySem.F.called_set.init.plain PySem.F.entry_set_init (check_set_init_1 hT ?_)) fun r3 z3 hr3 => ?_
      · obtain ⟨ol, hol, hcl, nl, hdl⟩ := hl
        obtain ⟨ocls, odict, odata, oslots⟩ := ol
        simp only at hcl hdl; subst hcl; subst hdl
        have hol2 : s0.heap.get? q = some { cls := .type "tuple", dict := odict, data := .seq items nl, slots := oslots } := Heap.get?_push_of_some _ hol
        have b1 := sub_tuple_set
        have b2 := sub_tuple_frozenset
        have b3 : (Value.type "tuple" == Value.type "dict") = false := by decide
        have hl1 : s0.heap.IsTuple q items := ⟨_, hol2, rfl, nl, rfl⟩
        unfold Builtin.«set.__init__» noKeywords Builtin.Frozenset.updateFrom
        generalize hPI : pyIter = PI
        wp_walk
        subst hPI
        refine wpAny_pyIter_tuple hl1 ?_
        refine wpAny_bind (wpAny_runValue ?_)
        have hqs : q < s.heap.objs.size := Heap.lt_size hol
        have hh3 : A.in1.in1.in1.handled = none := by simp [hh]
        have z0 : s0.heap.objs.size = s.heap.objs.size + 1 := Heap.size_push _ _
        have hqI : q ≠ s0.heap.objs.size := Nat.ne_of_lt (by rw [z0]; exact Nat.lt_succ_of_lt hqs)
        have hSf : s.heap.objs.size ∉ [s0.heap.objs.size, q] := by
          simp only [List.mem_cons, List.not_mem_nil, or_false, not_or]
          exact ⟨Nat.ne_of_lt (by rw [z0]; exact Nat.lt_succ_self _), Nat.ne_of_gt hqs⟩
        refine tx_loop ((Walks.tuple hh3 _ q hqI items).toS) hSf xs hn hx hb (items.size - 0) 0 _ (by omega) (Nat.zero_le _) ⟨⟨_, Heap.get?_push_size _ rfl, rfl, rfl⟩, (hl1.push _)⟩ ?_ ?_
        · exact fresh_ok.at fun o e => Heap.get?_push_of_some _ e
        · intro z hm hz
          obtain ⟨h2, g2, d2, tk2, os2⟩ := z
          have eg : g2 = s.gens := hm.gens
          have ed : d2 = s.drawn := hm.drawn
          have eo : os2 = s.os := hm.os
          subst eg ed eo
          show wpAny _ _ _ _ _ _
          refine wpAny_pure ?_
          show wpAny _ _ (ret Value.none) _ _ _
          refine wpAny_pure ⟨rfl, h2, tk2, rfl, hz, fun b o hb e => ?_⟩
          refine hm.heap b o ?_ (Heap.get?_push_of_some _ (Heap.get?_push_of_some _ e))
          simp only [List.mem_cons, List.not_mem_nil, or_false, not_or]
          exact ⟨Nat.ne_of_lt hb, Nat.ne_of_lt (by rw [z0]; exact Nat.lt_succ_of_lt hb)⟩
      · cases r3 with
        | error e => exact hr3
        | ok fl3 =>
          cases fl3 with
          | ret r =>
            obtain ⟨rfl, h2, tk, rfl, hS2, hk2⟩ := hr3
            repeat (any_goals (first | assumption | wp_step))
            exact h _ _ hS2 hk2
          | _ => exact hr3.elim
    | _ => exact hr.elim
end
/-- the set, as an object of the walk -/
def SetX (P : Program) (w : World) (a : Addr) (l : List Str) : HO := .ext fun h => TxR P w h a l
section
variable {X : Cx}
theorem setX_new {w : World} {P : Program} {H : Hp} {h : Heap} {a : Addr} {l : List Str} (R : TxR P w h a l) : ObjOk P w H h a (SetX P w a l) := by
  have ⟨D, e, _⟩ := R
  exact ⟨R, ⟨_, e⟩, fun _ _ _ k => TxR.at (h2 := _) (by assumption) k⟩
theorem str_items : ∀ {xs : List Str} {its : List Value}, Vals (xs.map V.str) its → ∀ (i : Nat) (v : Value), its[i]? = some v → ∃ x t, xs[i]? = some x ∧ v = .str x t
  | [], _, r, i, v, h => by cases r; simp at h
  | x :: xs, _, .cons r t, i, v, h => by
    cases i with
    | zero =>
      obtain ⟨tk, e⟩ := r
      have h : some _ = some v := h
      rw [← Option.some.inj h, e]
      exact ⟨x, tk, rfl, rfl⟩
    | succ i => exact str_items t i v (by simpa using h)
theorem cr_setL (hc : X.calm = true) : CallR X (.type "set") (fun vs H Q => ∃ (a : Addr) (xs : List Str), vs = [V.ref a] ∧ SqL X.K H a (xs.map V.str) ∧ xs.length + 1 < scanBound ∧ ∀ p, H p = none → Q (.ref p) (upd H p (SetX X.prog X.w p (uniq xs)))) := by
  intro pins s σ H vs us Q I r h
  obtain ⟨a, xs, rfl, hs, hb, q⟩ := h
  obtain ⟨its, rv, hl, hz⟩ := I.list hs
  rw [Vals.ref1 r]
  have hlen : xs.length = its.length := by have := rv.length; rw [List.length_map] at this; exact this
  refine call_setL (A := X.A) (I.ok.hd hc) hl.isList (by simpa using hlen) (fun i v hv => str_items rv i v (by simpa using hv)) (by simpa [← hlen] using hb) fun h2 tk hR hk => ?_
  have keep : ∀ b u, s.heap.get? b = some u → h2.get? b = some u := fun b u e => hk b u (Heap.lt_size e) e
  exact ⟨.ref s.heap.objs.size, upd H s.heap.objs.size (SetX X.prog X.w s.heap.objs.size (uniq xs)), I.laid (t' := tk) keep (Nat.le_refl _) (setX_new hR), rfl, q _ (I.hok.fresh (Nat.le_refl _))⟩
theorem cr_setP (hc : X.calm = true) : CallR X (.type "set") (fun vs H Q => ∃ (a : Addr) (xs : List Str), vs = [V.ref a] ∧ SqT X.K H a (xs.map V.str) ∧ xs.length + 1 < scanBound ∧ ∀ p, H p = none → Q (.ref p) (upd H p (SetX X.prog X.w p (uniq xs)))) := by
  intro pins s σ H vs us Q I r h
  obtain ⟨a, xs, rfl, hs, hb, q⟩ := h
  obtain ⟨its, rv, hl, hz⟩ := I.tuple hs
  rw [Vals.ref1 r]
  have hlen : xs.length = its.length := by have := rv.length; rw [List.length_map] at this; exact this
  refine call_setP (A := X.A) (I.ok.hd hc) hl (by simpa using hlen) (fun i v hv => str_items rv i v (by simpa using hv)) (by simpa [← hlen] using hb) fun h2 tk hR hk => ?_
  have keep : ∀ b u, s.heap.get? b = some u → h2.get? b = some u := fun b u e => hk b u (Heap.lt_size e) e
  exact ⟨.ref s.heap.objs.size, upd H s.heap.objs.size (SetX X.prog X.w s.heap.objs.size (uniq xs)), I.laid (t' := tk) keep (Nat.le_refl _) (setX_new hR), rfl, q _ (I.hok.fresh (Nat.le_refl _))⟩
end
end Zk
/-! TL27: sorted(set(xs)), sorted(tuple), sorted of a dict of any size. -/
namespace Zk
open PySem PySem.Spec L2
section
variable {X : Cx}
theorem perm_of_sub : ∀ {l ys : List Str}, l.Nodup → (∀ x ∈ l, x ∈ ys) → ys.length ≤ l.length → ys.Perm l
  | [], ys, _, _, h => by
    have : ys = [] := List.length_eq_zero_iff.mp (Nat.le_zero.mp h)
    rw [this]
  | x :: l, ys, nd, h, hl => by
    rw [List.nodup_cons] at nd
    have hx := h x (List.mem_cons_self ..)
    have p := List.perm_cons_erase hx
    have hle := p.length_eq
    rw [List.length_cons] at hle hl
    exact p.trans (.cons x (perm_of_sub nd.2 (fun y hy => (List.mem_erase_of_ne (fun (e : y = x) => nd.1 (e ▸ hy))).mpr (h y (List.mem_cons_of_mem _ hy))) (by omega)))
/-- the members' texts -/
theorem elems_str {P : Program} {w : World} {D : Froz.SD} {l : List Str} (F : Froz.TxOk P w D l) (nd : l.Nodup) {vs : List Value} (pm : vs.Perm (D.1.toList.map (·.2))) : ∃ ys : List Str, ys.Perm l ∧ Vals (ys.map V.str) vs := by
  have h1 : ∀ v ∈ vs, ∃ x t, v = Value.str x t := fun v hv => by
    obtain ⟨e, he, rfl⟩ := List.mem_map.mp (pm.mem_iff.mp hv)
    obtain ⟨⟨k, hk, _⟩, _⟩ := F.el e he
    obtain ⟨t, e2⟩ := Value.isStrOf_shape (x := k) (v := e.2) hk
    exact ⟨k, t, e2⟩
  have h2 : ∃ ys : List Str, Vals (ys.map V.str) vs := by
    clear pm
    induction vs with
    | nil => exact ⟨[], .nil⟩
    | cons v vs ih =>
      obtain ⟨ys, hy⟩ := ih fun u hu => h1 u (List.mem_cons_of_mem _ hu)
      obtain ⟨x, t, rfl⟩ := h1 v (List.mem_cons_self ..)
      exact ⟨x :: ys, .cons ⟨t, rfl⟩ hy⟩
  obtain ⟨ys, hy⟩ := h2
  refine ⟨ys, perm_of_sub nd (fun x hx => ?_) ?_, hy⟩
  · obtain ⟨e, he, hk⟩ := (F.mem x).mp hx
    obtain ⟨t, e2⟩ := Value.isStrOf_shape (x := x) (v := e.2) hk
    have hm : e.2 ∈ vs := pm.mem_iff.mpr (List.mem_map.mpr ⟨e, he, rfl⟩)
    obtain ⟨i, hi⟩ := List.mem_iff_getElem?.mp hm
    obtain ⟨x2, t2, hx2, e3⟩ := str_items hy i _ hi
    rw [e2] at e3
    injection e3 with e4 _
    rw [e4]
    exact List.mem_of_getElem? hx2
  · have a1 := hy.length
    have a2 := pm.length_eq
    have a3 := F.sz
    rw [List.length_map] at a1 a2
    rw [a1]
    refine Nat.le_of_eq (Eq.trans a2 (Eq.trans ?_ a3))
    exact Array.length_toList
/-- a new list of texts is sorted, whatever it was gathered from -/
theorem sort_texts {A : Around} {P : Program} {w : World} {E : Value → Shared → Prop} {s : Shared} {vs : List Value} {ys : List Str} {Q : Value → Shared → Prop} (hy : Vals (ys.map V.str) vs) (hz : ys.length ≤ sizeLine) (hu : A.units + 60 < cLine)
    (h : ∀ out, Vals ((sortS ys).map V.str) out → Q (.none) { s with heap := PyProof.Rows.sortedHeap (s.heap.push (PyProof.Rows.seqObj "list" vs.toArray 0)) s.heap.objs.size vs out.toArray }) :
    wpAny (model P w) A (call (.builtin "list.sort") [.ref s.heap.objs.size]) Q E { s with heap := s.heap.push (PyProof.Rows.seqObj "list" vs.toArray 0) } := by
  have hoL : (s.heap.push (PyProof.Rows.seqObj "list" vs.toArray 0)).get? s.heap.objs.size = some (PyProof.Rows.seqObj "list" vs.toArray 0) := Heap.get?_push_size _ rfl
  have e : PySem.W.EachIs (fun (v : Value) (x : Str) => ∃ t, v = .str x t) vs ys := by
    clear h hz
    have : ∀ {ys : List Str} {vs : List Value}, Vals (ys.map V.str) vs → PySem.W.EachIs (fun (v : Value) (x : Str) => ∃ t, v = .str x t) vs ys := by
      intro ys
      induction ys with
      | nil => intro vs r; cases r; exact .nil
      | cons y ys ih => intro vs r; cases r with
        | cons r t => exact .cons (by obtain ⟨t, e⟩ := r; exact ⟨t, e⟩) (ih t)
    exact this hy
  refine PySem.W.list_sort_data (enc := fun x : Str => PyData.str x) (R := fun (v : Value) (x : Str) => ∃ t, v = .str x t) (bs := ys) (n := 0) (s := { s with heap := s.heap.push (PyProof.Rows.seqObj "list" vs.toArray 0) }) hoL e ?_ (PySem.W.AllAlike.of fun _ _ => by simp [PySem.W.alike]) (PySem.W.Sortable.others fun x => ⟨by simp, by simp⟩) hz (fun x _ => by simp [PyData.depth]; omega) fun out hlen eo => ?_
  · exact e.mono fun v x ⟨t, e⟩ => ⟨[], by rw [e]; exact .str _ _, by simp⟩
  · refine h out ?_
    have e2 : ys.mergeSort (PySem.W.dataLe false fun x : Str => PyData.str x) = sortS ys := by
      unfold sortS
      congr 1
      funext a b
      have q := PySem.W.dataLe_str (fun x : Str => x)
      rw [show (PySem.W.dataLe false fun x : Str => PyData.str x) = _ from q]
      show decide (a.cps.toList ≤ b.cps.toList) = leS a b
      by_cases hle : a.cps.toList ≤ b.cps.toList
      · rw [decide_eq_true hle, leS_iff.mpr hle]
      · rw [decide_eq_false hle]
        cases hh : leS a b with
        | false => rfl
        | true => exact absurd (leS_iff.mp hh) hle
    rw [e2] at eo
    have : ∀ {ys : List Str} {vs : List Value}, PySem.W.EachIs (fun (v : Value) (x : Str) => ∃ t, v = .str x t) vs ys → Vals (ys.map V.str) vs := by
      intro ys vs e
      induction e with
      | nil => exact .nil
      | cons r _ ih => exact .cons (by obtain ⟨t, e⟩ := r; exact ⟨t, e⟩) ih
    exact this eo
/-- behind the gathering: the sorted list -/
theorem sorted_end {pins : List (Addr × Obj)} {σ : St} {H : Hp} {s s1 : Shared} {vs : List Value} {ys : List Str} (I : Inv X pins σ H s) (k1 : ∀ b o, s.heap.get? b = some o → s1.heap.get? b = some o) (hz : s.heap.objs.size ≤ s1.heap.objs.size)
    (g1 : s1.gens = s.gens) (o1 : s1.os = s.os) (hy : Vals (ys.map V.str) vs) (hl : ys.length ≤ sizeLine) 
    (out : List Value) (ho : Vals ((sortS ys).map V.str) out) :
    ∃ p H2, Inv X pins σ H2 { s1 with heap := PyProof.Rows.sortedHeap (s1.heap.push (PyProof.Rows.seqObj "list" vs.toArray 0)) s1.heap.objs.size vs out.toArray } ∧ p = s1.heap.objs.size ∧ H p = none ∧ H2 = upd H p (.lst ((sortS ys).map V.str)) := by
  have hoL : (s1.heap.push (PyProof.Rows.seqObj "list" vs.toArray 0)).get? s1.heap.objs.size = some (PyProof.Rows.seqObj "list" vs.toArray 0) := Heap.get?_push_size _ rfl
  obtain ⟨c, hc⟩ := PyProof.Rows.sortedHeap_at (vs := vs) (out := out.toArray) hoL
  have keep : ∀ b u, s.heap.get? b = some u → (PyProof.Rows.sortedHeap (s1.heap.push (PyProof.Rows.seqObj "list" vs.toArray 0)) s1.heap.objs.size vs out.toArray).get? b = some u := fun b u e => by
    have q := k1 b u e
    have hlt := Heap.lt_size q
    rw [PyProof.Rows.sortedHeap_old (Nat.ne_of_lt hlt) (by rw [Heap.size_push]; exact Nat.lt_succ_of_lt hlt)]
    exact Heap.get?_push_of_some _ q
  have hn : H s1.heap.objs.size = none := I.hok.fresh hz
  have hlen : ((sortS ys).map V.str).length ≤ sizeLine := by rw [List.length_map, (sortS_perm ys).length_eq]; exact hl
  have J : Inv X pins σ (upd H s1.heap.objs.size (.lst ((sortS ys).map V.str))) { s with heap := PyProof.Rows.sortedHeap (s1.heap.push (PyProof.Rows.seqObj "list" vs.toArray 0)) s1.heap.objs.size vs out.toArray, gens := s1.gens, drawn := s1.drawn, toks := s1.toks } :=
    I.call (ch := []) (Un.laid keep hz hn) (I.hok.laid keep hz ⟨hlen, out, c, ho, hc⟩) (by rw [g1]; exact I.bare) (fun _ z => nomatch z)
  obtain ⟨h1, gg, dd, tt, oo⟩ := s1
  have o1 : oo = s.os := o1
  subst o1
  exact ⟨_, _, J, rfl, hn, rfl⟩
theorem cr_sortedX (hc : X.calm = true) (hu : X.A.units + 64 < cLine) : CallR X (.builtin "sorted") (fun vs H Q => ∃ (a : Addr) (l : List Str), vs = [V.ref a] ∧ H a = some (SetX X.prog X.w a l) ∧ l.Nodup ∧ l.length < scanBound ∧
    ∀ p, H p = none → Q (.ref p) (upd H p (.lst ((sortS l).map V.str)))) := by
  intro pins s σ H vs us Q I r h
  obtain ⟨a, l, rfl, ha, nd, hb, q⟩ := h
  obtain ⟨D, ho, F, _, hr, hl⟩ := (I.hok a _ ha).1
  rw [Vals.ref1 r]
  have hsz : D.1.size = l.length := F.sz
  refine Calls.call_function_entry PyProof.Rows.kind_sorted PyProof.Rows.plain_sorted PyProof.Rows.entry_sorted (PyProof.Rows.args_sorted1 _) ?_
  unfold Builtin.«sorted»
  refine wpAny_bind (m := checkCount "sorted" 1 1 _) (wpAny_pure ?_)
  refine wpAny_bind (collect_set (A := X.A.in1) (I.ok.hd hc) ⟨_, ho, rfl, rfl⟩ F.fit (by omega) hr hl fun s1 vs k1 hz g1 o1 pm => ?_)
  obtain ⟨ys, hp, hy⟩ := elems_str F nd pm
  have hys : ys.length ≤ sizeLine := by rw [hp.length_eq]; exact fits_of_scanBound hb
  have e : sortS ys = sortS l := sortS_eq ((sortS_perm ys).trans hp) (sortS_pw ys)
  have hvl : vs.length = ys.length := by have := hy.length; rw [List.length_map] at this; exact this.symm
  refine wpAny_bind (wpAny_newList ?_ (by rw [hvl]; exact hys))
  refine wpAny_bind (wpAny_holding (sort_texts hy hys (by rw [show X.A.in1.units = X.A.units + 1 from rfl]; omega) fun out hout => ?_))
  obtain ⟨p, H2, J, rfl, hn, rfl⟩ := sorted_end I k1 hz g1 o1 hy hys out hout
  refine wpAny_pure ⟨_, rfl, .ref s1.heap.objs.size, _, J, rfl, ?_⟩
  rw [e]
  exact q _ hn
/-- sorted(d) of a dict whose keys are texts, of any size -/
theorem cr_sortedDn (hc : X.calm = true) (hu : X.A.units + 64 < cLine) : CallR X (.builtin "sorted") (fun xs H Q => ∃ (a : Addr) (kvs : List (Key × V)) (ks : List Str), xs = [.ref a] ∧ Rd H a (.dK kvs) ∧ kvs.map (·.1) = ks.map Sum.inr ∧
    ∀ p, H p = none → Q (.ref p) (upd H p (.lst ((sortS ks).map V.str)))) := by
  intro pins s σ H xs us Q I r h
  obtain ⟨a, kvs, ks, rfl, hd, hks, q⟩ := h
  rw [Vals.ref1 r]
  obtain ⟨z, lo, vs, rel, dd⟩ := dk_rd I.hok hd
  obtain ⟨ep, hat⟩ := dd.dictAt
  have hkeys : vs.map (·.1) = ks.map Sum.inr := rel.keys.symm.trans hks
  have hl : vs.length = ks.length := by have e := congrArg List.length hkeys; rw [List.length_map, List.length_map] at e; exact e
  have h16 : vs.length ≤ sizeLine := by rw [← rel.length]; exact z
  refine Calls.call_function_entry PyProof.Rows.kind_sorted PyProof.Rows.plain_sorted PyProof.Rows.entry_sorted (PyProof.Rows.args_sorted1 _) ?_
  unfold Builtin.«sorted»; refine wpAny_bind (m := checkCount "sorted" 1 1 _) (wpAny_pure ?_)
  refine wpAny_bind (PySem.W.kdu_collect (A := X.A.in1) (PySem.W.kdl_dict (knd := mixKind X.prog X.w) (kvs := vs) (ep := ep) lo) (I.ok.hd hc) hat h16 fun h2 tk acc hk hacc => ?_)
  have hal : acc.toList.length = ks.length := by rw [Array.length_toList, hacc.1, hl]
  have hS : Vals (ks.map V.str) acc.toList := vals_of_strs (strs_at hal fun j v e => by
    obtain ⟨k, x, e1, e2⟩ := hacc.2 j v (by rw [← Array.getElem?_toList]; exact e)
    have e3 : (vs.map (·.1))[j]? = some k := by rw [List.getElem?_map, e1] <;> rfl
    rw [hkeys, List.getElem?_map] at e3
    obtain ⟨y, e4, e5⟩ := Option.map_eq_some_iff.mp e3
    subst e5
    obtain ⟨t, ev⟩ := Value.isStrOf_shape (x := y) (v := v) e2
    exact ⟨y, t, e4, ev⟩)
  have hys : ks.length ≤ sizeLine := by omega
  have I1 : Inv X pins σ H { s with heap := h2, toks := tk } := I.kept hk
  refine wpAny_bind (wpAny_newList ?_ (by rw [hal]; exact hys))
  refine wpAny_bind (wpAny_holding (sort_texts (s := { s with heap := h2, toks := tk }) hS hys (by rw [show X.A.in1.units = X.A.units + 1 from rfl]; omega) fun out hout => ?_))
  obtain ⟨p, H2, J, rfl, hn, rfl⟩ := sorted_end (s1 := { s with heap := h2, toks := tk }) I1 (fun _ _ e => e) (Nat.le_refl _) rfl rfl hS hys out hout
  exact wpAny_pure ⟨_, rfl, .ref h2.objs.size, _, J, rfl, q _ hn⟩
/-- sorted(t) of a tuple of texts -/
theorem cr_sortedP (hu : X.A.units + 64 < cLine) : CallR X (.builtin "sorted") (fun vs H Q => ∃ (a : Addr) (ks : List Str), vs = [V.ref a] ∧ SqT X.K H a (ks.map V.str) ∧ ∀ p, H p = none → Q (.ref p) (upd H p (.lst ((sortS ks).map V.str)))) := by
  intro pins s σ H xs us Q I r h
  obtain ⟨a, ks, rfl, hs, q⟩ := h
  rw [Vals.ref1 r]
  obtain ⟨its, rv, hl, hz⟩ := I.tuple hs
  have hys : ks.length ≤ sizeLine := by rw [List.length_map] at hz; exact hz
  have hvl : its.length = ks.length := by have := rv.length; rw [List.length_map] at this; exact this.symm
  obtain ⟨o, ho, h1, n, h2⟩ := hl
  refine Calls.call_function_entry PyProof.Rows.kind_sorted PyProof.Rows.plain_sorted PyProof.Rows.entry_sorted (PyProof.Rows.args_sorted1 _) ?_
  unfold Builtin.«sorted»; refine wpAny_bind (m := checkCount "sorted" 1 1 _) (wpAny_pure ?_)
  refine wpAny_bind (wpAny_collect_seq (A := X.A.in1) a (.inr rfl) ho h1 h2 (fun h2 hk => ?_) (by simpa [hvl] using hys))
  have I1 : Inv X pins σ H { s with heap := h2 } := I.kept hk
  rw [List.toList_toArray]
  refine wpAny_bind (wpAny_newList ?_ (by rw [hvl]; exact hys))
  refine wpAny_bind (wpAny_holding (sort_texts (s := { s with heap := h2 }) rv hys (by rw [show X.A.in1.units = X.A.units + 1 from rfl]; omega) fun out hout => ?_))
  obtain ⟨p, H2, J, rfl, hn, rfl⟩ := sorted_end (s1 := { s with heap := h2 }) I1 (fun _ _ e => e) (Nat.le_refl _) rfl rfl rv hys out hout
  exact wpAny_pure ⟨_, rfl, .ref h2.objs.size, _, J, rfl, q _ hn⟩
end
section
variable {X : Cx} {z : Zs} {Γ : List Sl} {a : Expr} {α : Type} {A : Ty α} {pos p p2 spos : Pos}
/-- sorted(set(xs)) -/
theorem xf_sortSet (hc : X.calm = true) (hu : X.A.units + 64 < cLine) (hm : X.mg "sorted" = none) (hm2 : X.mg "set" = none) {wl : (List Str → Prop) → Prop} (h : XL X z Γ a tyS wl) (hg : Gl X "sorted" := by rfl) (hg2 : Gl X "set" := by rfl)
    (hs2 : starEach (a :: []) X.env = (false, eval a X.env) :: starEach [] X.env := by rfl) (hs : starEach (.Call (.Name "set" p2) [a] [] spos :: []) X.env = (false, eval (.Call (.Name "set" p2) [a] [] spos) X.env) :: starEach [] X.env := by rfl) :
    XF X z Γ (.Call (.Name "sorted" p) [.Call (.Name "set" p2) [a] [] spos] [] pos) tyS (fun k => wl fun xs => xs.length + 1 < scanBound ∧ k (sortS (uniq xs))) := fun G0 H0 σ G H k Q E hw hk =>
  ⟨_, pe_callB (cr_sortedX hc hu) hg hm (by decide +kernel) (pa_cons (pe_callTy (cr_setL hc) hg2 hm2 (by decide +kernel) (pa_cons re pa_nil hs2) (by decide) (by decide) hs2 rfl) pa_nil hs) (by decide) (by decide) hs rfl,
    h G0 H0 σ G H _ _ E hw fun G1 H1 q vs xs W1 S1 sq r ⟨hl, h1⟩ => ⟨q, xs, rfl, by rw [← paired_strs r]; exact SqL.of sq.r, hl, fun p1 n1 => ⟨p1, uniq xs, rfl, upd_same, uniq_nodup xs, Nat.lt_of_le_of_lt (uniq_len xs) (by omega), fun p2 n2 =>
      xf_last (W1.own n1) (S1.trans (Stp.own n1)) (pair_strs _ _ fun x hx => paired_sok r x (uniq_mem.mp ((sortS_perm _).mem_iff.mp hx))) h1 hk p2 n2⟩⟩⟩
/-- sorted(d) -/
theorem xf_sortDk (hc : X.calm = true) (hu : X.A.units + 64 < cLine) (hm : X.mg "sorted" = none) {wd : (List (Str × α) → Prop) → Prop} (h : XD X z Γ a A wd) (hg : Gl X "sorted" := by rfl) (hs : starEach (a :: []) X.env = (false, eval a X.env) :: starEach [] X.env := by rfl) :
    XF X z Γ (.Call (.Name "sorted" p) [a] [] pos) tyS (fun k => wd fun d => k (sortS (keys d))) := fun G0 H0 σ G H k Q E hw hk =>
  ⟨_, pe_callB (cr_sortedDn hc hu) hg hm (by decide +kernel) (pa_cons re pa_nil hs) (by decide) (by decide) hs rfl, h G0 H0 σ G H _ _ E hw fun G1 H1 q ks xs W1 S1 sq r h1 => ⟨q, ks, keys xs, rfl, sq.r, kv_keys r, fun p np =>
    xf_last W1 S1 (pair_strs _ _ fun x hx => kv_sok r x ((sortS_perm _).mem_iff.mp hx)) h1 hk p np⟩⟩
/-- sorted(t) -/
theorem xf_sortP (hu : X.A.units + 64 < cLine) (hm : X.mg "sorted" = none) {wl : (List Str → Prop) → Prop} (h : XE X z Γ a (tyP tyS) wl) (hg : Gl X "sorted" := by rfl) (hs : starEach (a :: []) X.env = (false, eval a X.env) :: starEach [] X.env := by rfl) :
    XF X z Γ (.Call (.Name "sorted" p) [a] [] pos) tyS (fun k => wl fun xs => k (sortS xs)) := fun G0 H0 σ G H k Q E hw hk =>
  ⟨_, pe_callB (cr_sortedP hu) hg hm (by decide +kernel) (pa_cons re pa_nil hs) (by decide) (by decide) hs rfl, h G0 H0 σ G H _ _ E hw fun G1 H1 v xs W1 S1 ⟨q, vs, e, hq, r⟩ h1 => ⟨q, xs, by rw [e], by rw [← paired_strs r]; exact SqT.of (W1.of hq nodt), fun p np =>
    xf_last W1 S1 (pair_strs _ _ fun x hx => paired_sok r x ((sortS_perm _).mem_iff.mp hx)) h1 hk p np⟩⟩
end
end Zk
/-! TL28: values that may be None, compared; isinstance of them. -/
namespace Zk
open PySem PySem.Spec L2
def encN {α : Type} (f : α → PyData) : Option α → PyData
  | none => .none
  | some x => f x
instance : DpTy (tyN tyS) := ⟨encN (DpTy.enc tyS), 0, fun {K z G H v x} W h => by
  cases x with
  | none => rw [show v = V.non from h]; exact ⟨.non, rfl⟩
  | some y => exact DpTy.dp (A := tyS) W h, fun x => by cases x <;> exact Nat.le_refl _, fun x y => by
  cases x with
  | none => cases y with
    | none => simp [encN, PyData.eqv]
    | some y => simp [encN, PyData.eqv, DpTy.enc]
  | some x => cases y with
    | none => simp [encN, PyData.eqv, DpTy.enc]
    | some y => rw [Option.some.injEq]; exact DpTy.ev (A := tyS) x y⟩
instance : DpTy (tyN tyI) := ⟨encN (DpTy.enc tyI), 0, fun {K z G H v x} W h => by
  cases x with
  | none => rw [show v = V.non from h]; exact ⟨.non, rfl⟩
  | some y => exact DpTy.dp (A := tyI) W h, fun x => by cases x <;> exact Nat.le_refl _, fun x y => by
  cases x with
  | none => cases y with
    | none => simp [encN, PyData.eqv]
    | some y => simp [encN, PyData.eqv, DpTy.enc]
  | some x => cases y with
    | none => simp [encN, PyData.eqv, DpTy.enc]
    | some y => rw [Option.some.injEq]; exact DpTy.ev (A := tyI) x y⟩
instance {ρ : Type} {R : Row ρ} [r : DpRow R] : DpTy (tyN (tyT R)) := ⟨encN (DpTy.enc (tyT R)), r.dep + 1, fun {K z G H v x} W h => by
  cases x with
  | none => rw [show v = V.non from h]; exact ⟨.non, rfl⟩
  | some y => exact DpTy.dp (A := tyT R) W h, fun x => by
  cases x with
  | none => exact Nat.zero_le _
  | some y => exact DpTy.le (A := tyT R) y, fun x y => by
  cases x with
  | none => cases y with
    | none => simp [encN, PyData.eqv]
    | some y => simp [encN, PyData.eqv, DpTy.enc]
  | some x => cases y with
    | none => simp [encN, PyData.eqv, DpTy.enc]
    | some y => rw [Option.some.injEq]; exact DpTy.ev (A := tyT R) x y⟩
section
variable {X : Cx} {z : Zs} {Γ : List Sl} {a : Expr} {α : Type} {A : Ty α} {pos p p2 spos : Pos} {wa : (Option α → Prop) → Prop}
/-- isinstance(a, C) of what may be None -/
theorem xe_isiN {n c : String} [IsTy A n] (hm : X.mg "isinstance" = none) (hm2 : X.mg c = none) (hv : bootBuiltins c = some (.type c)) (hk : kitB n c = some true) (hk2 : kitB "NoneType" c = some false) (h : XE X z Γ a (tyN A) wa) (hg : Gl X "isinstance" := by rfl) (hg2 : Gl X c := by rfl)
    (hs : starEach (a :: [.Name c p2]) X.env = (false, eval a X.env) :: starEach [.Name c p2] X.env := by rfl) (hs2 : starEach (.Name c p2 :: []) X.env = (false, eval (.Name c p2) X.env) :: starEach [] X.env := by rfl)
    (hpl : (backTo pos (starEach [.Name c p2] X.env)).any (·.1) = false := by rfl) (hn : (c : Str) ≠ "__name__" := by decide) (hd : ((c : Str) == ("__debug__" : Str)) = false := by decide) :
    XE X z Γ (.Call (.Name "isinstance" p) [a, .Name c p2] [] pos) tyB (fun k => wa fun x => k x.isSome) := fun G0 H0 σ G H k Q E hw hk' =>
  ⟨_, pe_callB call_isi hg hm (by decide +kernel) (pa_cons re (pa_cons (pe_bltn (v := .ty c) hg2 hm2 hv rfl hn hd) pa_nil hs2) hs) (by decide) (by decide) hs hpl, h G0 H0 σ G H _ _ E hw fun G1 H1 v x W1 S1 rv h1 => by
    cases x with
    | none => exact ⟨v, .ty c, _, _, false, rfl, .ty c, IsTy.ty (A := tyU) W1 (x := ()) rv, kit_ty hk2, hk' G1 H1 _ false W1 S1 rfl h1⟩
    | some y => exact ⟨v, .ty c, _, _, true, rfl, .ty c, IsTy.ty (A := A) W1 (x := y) rv, kit_ty hk, hk' G1 H1 _ true W1 S1 rfl h1⟩⟩
/-- sorted(set(t)) of a tuple -/
theorem xf_sortSetP (hc : X.calm = true) (hu : X.A.units + 64 < cLine) (hm : X.mg "sorted" = none) (hm2 : X.mg "set" = none) {wl : (List Str → Prop) → Prop} (h : XE X z Γ a (tyP tyS) wl) (hg : Gl X "sorted" := by rfl) (hg2 : Gl X "set" := by rfl)
    (hs2 : starEach (a :: []) X.env = (false, eval a X.env) :: starEach [] X.env := by rfl) (hs : starEach (.Call (.Name "set" p2) [a] [] spos :: []) X.env = (false, eval (.Call (.Name "set" p2) [a] [] spos) X.env) :: starEach [] X.env := by rfl) :
    XF X z Γ (.Call (.Name "sorted" p) [.Call (.Name "set" p2) [a] [] spos] [] pos) tyS (fun k => wl fun xs => xs.length + 1 < scanBound ∧ k (sortS (uniq xs))) := fun G0 H0 σ G H k Q E hw hk =>
  ⟨_, pe_callB (cr_sortedX hc hu) hg hm (by decide +kernel) (pa_cons (pe_callTy (cr_setP hc) hg2 hm2 (by decide +kernel) (pa_cons re pa_nil hs2) (by decide) (by decide) hs2 rfl) pa_nil hs) (by decide) (by decide) hs rfl,
    h G0 H0 σ G H _ _ E hw fun G1 H1 v xs W1 S1 ⟨q, vs, ev, hq, r⟩ ⟨hl, h1⟩ => ⟨q, xs, by rw [ev], by rw [← paired_strs r]; exact SqT.of (W1.of hq nodt), hl, fun p1 n1 => ⟨p1, uniq xs, rfl, upd_same, uniq_nodup xs, Nat.lt_of_le_of_lt (uniq_len xs) (by omega), fun p2 n2 =>
      xf_last (W1.own n1) (S1.trans (Stp.own n1)) (pair_strs _ _ fun x hx => paired_sok r x (uniq_mem.mp ((sortS_perm _).mem_iff.mp hx))) h1 hk p2 n2⟩⟩⟩
theorem sortB_txt (xs : List Str) : sortB (OrdTy.lt tyS) xs = sortS xs := by
  unfold sortB sortS
  congr 1
  funext a b
  show (!decide (b.cps.toList < a.cps.toList)) = leS a b
  by_cases hle : a.cps.toList ≤ b.cps.toList
  · rw [leS_iff.mpr hle, decide_eq_false (List.not_lt.mpr hle)]; rfl
  · rw [decide_eq_true (List.not_le.mp hle)]
    cases hh : leS a b with
    | false => rfl
    | true => exact absurd (leS_iff.mp hh) hle
/-- sorted(xs) of a list of texts, any size -/
theorem xf_sortSn (hm : X.mg "sorted" = none) (hu : X.A.units + 64 < cLine) {wl : (List Str → Prop) → Prop} (h : XL X z Γ a tyS wl) (hg : Gl X "sorted" := by rfl) (hs : starEach (a :: []) X.env = (false, eval a X.env) :: starEach [] X.env := by rfl) :
    XF X z Γ (.Call (.Name "sorted" p) [a] [] pos) tyS (fun k => wl fun xs => k (sortS xs)) := by
  have q := xf_sortT (p := p) (pos := pos) hm hu h (by exact Nat.le_of_ble_eq_true rfl) hg hs
  have e : (fun (k : List Str → Prop) => wl fun xs => k (sortB (OrdTy.lt tyS) xs)) = fun k => wl fun xs => k (sortS xs) := by
    funext k
    congr 1
    funext xs
    rw [sortB_txt]
  rw [← e]
  exact q
end
end Zk
namespace Zk
open PySem PySem.Spec L2
/-! ### the text -/
def top (i : Nat) : Stmt := PySem.Challenge.pw_sourcestold_k14_seen_at.main.body.getD i (.Pass ⟨0, 0, 0, 0⟩)
abbrev FnE (K : PySem.W.Frag) (nm qual : Str) (s : Stmt) (at_ : Str × Option Str) : Prop := ∃ fd, FunD K nm qual (defArgs s) (defBody s) (defScope s) [] [] (He.fAd K at_) fd
def ns_Share : List Str := ["over", "under"]
def ns_Table : List Str := ["weights", "whole"]
def ns_Machine : List Str := ["alphabet", "start", "rows", "length", "unit", "whole", "weights"]
def ns_Machine0 : List Str := ["alphabet", "start", "rows", "length", "unit", "whole"]
def ns_Marking : List Str := ["entries", "whole"]
theorem nd_Share : ns_Share.Nodup := by decide
theorem nd_Table : ns_Table.Nodup := by decide
theorem nd_Machine : ns_Machine.Nodup := by decide
theorem nd_Machine0 : ns_Machine0.Nodup := by decide
theorem nd_Marking : ns_Marking.Nodup := by decide
def g_Src (y : (Str × Int × (List (List (Int × Int))) × Int × Int × Int × (List (Str × (Int))))) : ((List (Str × (Int))) × Int) := (y.2.2.2.2.2.2, y.2.2.2.2.2.1)
abbrev tSt : Type := (List (Int)) × Int × Int × Int × Int
abbrev Rst : Row tSt := (Row.cons (tyL tyI) (Row.cons tyI (Row.cons tyI (Row.cons tyI (Row.one tyI)))))
/-- what holds of the law's state -/
def Ist (u : tSt) : Prop := 0 ≤ u.2.1 ∧ 0 ≤ u.2.2.1 ∧ 0 ≤ u.2.2.2.2 ∧ u.2.2.2.2 < 2147483647
/-- a drawn number: any below the limit -/
def w_law_draw (y : Int) (k : Int → Prop) : Prop := y.natAbs.log2 < 9000 ∧ ∀ r, 0 ≤ r → r < max y 1 → k r

abbrev s_Marking___init__ : Stmt := inClass (top 19) 0
abbrev s_is_integer : Stmt := top 13
abbrev s_Table___init__ : Stmt := inClass (top 15) 0
abbrev s_law_draw : Stmt := top 25
abbrev s_law_changed : Stmt := top 36
abbrev s_law_is_at : Stmt := top 38
abbrev s_law_seen : Stmt := top 37
abbrev s_Machine_all_weights : Stmt := inClass (top 16) 1
abbrev s_greatest_divisor : Stmt := top 7
abbrev s_least_multiple : Stmt := top 8
abbrev s_power : Stmt := top 9
abbrev s_Machine___init__ : Stmt := inClass (top 16) 0
abbrev s_law_signs : Stmt := top 27
abbrev s_law_text : Stmt := top 28
abbrev s_law_texts : Stmt := top 29
abbrev s_law_wide : Stmt := top 26
abbrev s_law_weight : Stmt := top 30
abbrev s_law_pairs : Stmt := top 31
abbrev s_law_spec : Stmt := top 32
abbrev s_law_gcd : Stmt := top 23
abbrev s_law_words : Stmt := top 33
abbrev s_law_source : Stmt := top 34
abbrev s_law_split : Stmt := top 35
abbrev s_law_start : Stmt := top 24
abbrev s_Machine_weight_of : Stmt := inClass (top 16) 3
abbrev s_Share___init__ : Stmt := inClass (top 11) 0
abbrev s_Machine_share_of : Stmt := inClass (top 16) 4
abbrev s_Machine_texts : Stmt := inClass (top 16) 2
abbrev s_Marking_texts : Stmt := inClass (top 19) 5
abbrev s_Marking_written_share : Stmt := inClass (top 19) 6
abbrev s_Share___eq__ : Stmt := inClass (top 11) 4
abbrev s_Table_weight_of : Stmt := inClass (top 15) 2
abbrev s_Table_share_of : Stmt := inClass (top 15) 3
abbrev s_Table_texts : Stmt := inClass (top 15) 1
abbrev s_seen_at : Stmt := top 21
abbrev s_law_body : Stmt := top 39
abbrev s_law : Stmt := top 40
/-- what is known of the text -/
structure Txt (K : PySem.W.Frag) (mg : Str → Option Value) : Prop where
  f_Marking___init__ : FnE K "__init__" "Marking.__init__" s_Marking___init__ ("Marking", some "__init__")
  f_is_integer : FnE K "_is_integer" "_is_integer" s_is_integer ("_is_integer", none)
  f_Table___init__ : FnE K "__init__" "Table.__init__" s_Table___init__ ("Table", some "__init__")
  f_law_draw : FnE K "_law_draw" "_law_draw" s_law_draw ("_law_draw", none)
  f_law_changed : FnE K "_law_changed" "_law_changed" s_law_changed ("_law_changed", none)
  f_law_is_at : FnE K "_law_is_at" "_law_is_at" s_law_is_at ("_law_is_at", none)
  f_law_seen : FnE K "_law_seen" "_law_seen" s_law_seen ("_law_seen", none)
  f_Machine_all_weights : FnE K "all_weights" "Machine.all_weights" s_Machine_all_weights ("Machine", some "all_weights")
  f_greatest_divisor : FnE K "greatest_divisor" "greatest_divisor" s_greatest_divisor ("greatest_divisor", none)
  f_least_multiple : FnE K "least_multiple" "least_multiple" s_least_multiple ("least_multiple", none)
  f_power : FnE K "power" "power" s_power ("power", none)
  f_Machine___init__ : FnE K "__init__" "Machine.__init__" s_Machine___init__ ("Machine", some "__init__")
  f_law_signs : FnE K "_law_signs" "_law_signs" s_law_signs ("_law_signs", none)
  f_law_text : FnE K "_law_text" "_law_text" s_law_text ("_law_text", none)
  f_law_texts : FnE K "_law_texts" "_law_texts" s_law_texts ("_law_texts", none)
  f_law_wide : FnE K "_law_wide" "_law_wide" s_law_wide ("_law_wide", none)
  f_law_weight : FnE K "_law_weight" "_law_weight" s_law_weight ("_law_weight", none)
  f_law_pairs : FnE K "_law_pairs" "_law_pairs" s_law_pairs ("_law_pairs", none)
  f_law_spec : FnE K "_law_spec" "_law_spec" s_law_spec ("_law_spec", none)
  f_law_gcd : FnE K "_law_gcd" "_law_gcd" s_law_gcd ("_law_gcd", none)
  f_law_words : FnE K "_law_words" "_law_words" s_law_words ("_law_words", none)
  f_law_source : FnE K "_law_source" "_law_source" s_law_source ("_law_source", none)
  f_law_split : FnE K "_law_split" "_law_split" s_law_split ("_law_split", none)
  f_law_start : FnE K "_law_start" "_law_start" s_law_start ("_law_start", none)
  f_Machine_weight_of : FnE K "weight_of" "Machine.weight_of" s_Machine_weight_of ("Machine", some "weight_of")
  f_Share___init__ : FnE K "__init__" "Share.__init__" s_Share___init__ ("Share", some "__init__")
  f_Machine_share_of : FnE K "share_of" "Machine.share_of" s_Machine_share_of ("Machine", some "share_of")
  f_Machine_texts : FnE K "texts" "Machine.texts" s_Machine_texts ("Machine", some "texts")
  f_Marking_texts : FnE K "texts" "Marking.texts" s_Marking_texts ("Marking", some "texts")
  f_Marking_written_share : FnE K "written_share" "Marking.written_share" s_Marking_written_share ("Marking", some "written_share")
  f_Share___eq__ : FnE K "__eq__" "Share.__eq__" s_Share___eq__ ("Share", some "__eq__")
  f_Table_weight_of : FnE K "weight_of" "Table.weight_of" s_Table_weight_of ("Table", some "weight_of")
  f_Table_share_of : FnE K "share_of" "Table.share_of" s_Table_share_of ("Table", some "share_of")
  f_Table_texts : FnE K "texts" "Table.texts" s_Table_texts ("Table", some "texts")
  f_seen_at : FnE K "seen_at" "seen_at" s_seen_at ("seen_at", none)
  f_law_body : FnE K "_law_body" "_law_body" s_law_body ("_law_body", none)
  f_law : FnE K "law" "law" s_law ("law", none)
  c_Machine : Cls K (He.ga K "Machine")
  c_Marking : Cls K (He.ga K "Marking")
  c_Share : Cls K (He.ga K "Share")
  c_Table : Cls K (He.ga K "Table")
  g_Machine : mg "Machine" = some (.ref (He.ga K "Machine"))
  g_Marking : mg "Marking" = some (.ref (He.ga K "Marking"))
  g_Share : mg "Share" = some (.ref (He.ga K "Share"))
  g_Table : mg "Table" = some (.ref (He.ga K "Table"))
  g_greatest_divisor : mg "greatest_divisor" = some (.ref (He.ga K "greatest_divisor"))
  g_is_integer : mg "_is_integer" = some (.ref (He.ga K "_is_integer"))
  g_law : mg "law" = some (.ref (He.ga K "law"))
  g_law_body : mg "_law_body" = some (.ref (He.ga K "_law_body"))
  g_law_changed : mg "_law_changed" = some (.ref (He.ga K "_law_changed"))
  g_law_draw : mg "_law_draw" = some (.ref (He.ga K "_law_draw"))
  g_law_gcd : mg "_law_gcd" = some (.ref (He.ga K "_law_gcd"))
  g_law_is_at : mg "_law_is_at" = some (.ref (He.ga K "_law_is_at"))
  g_law_pairs : mg "_law_pairs" = some (.ref (He.ga K "_law_pairs"))
  g_law_seen : mg "_law_seen" = some (.ref (He.ga K "_law_seen"))
  g_law_signs : mg "_law_signs" = some (.ref (He.ga K "_law_signs"))
  g_law_source : mg "_law_source" = some (.ref (He.ga K "_law_source"))
  g_law_spec : mg "_law_spec" = some (.ref (He.ga K "_law_spec"))
  g_law_split : mg "_law_split" = some (.ref (He.ga K "_law_split"))
  g_law_start : mg "_law_start" = some (.ref (He.ga K "_law_start"))
  g_law_text : mg "_law_text" = some (.ref (He.ga K "_law_text"))
  g_law_texts : mg "_law_texts" = some (.ref (He.ga K "_law_texts"))
  g_law_weight : mg "_law_weight" = some (.ref (He.ga K "_law_weight"))
  g_law_wide : mg "_law_wide" = some (.ref (He.ga K "_law_wide"))
  g_law_words : mg "_law_words" = some (.ref (He.ga K "_law_words"))
  g_least_multiple : mg "least_multiple" = some (.ref (He.ga K "least_multiple"))
  g_power : mg "power" = some (.ref (He.ga K "power"))
  g_seen_at : mg "seen_at" = some (.ref (He.ga K "seen_at"))
  i_Share : Isi K (He.ga K "Share")
  k_Machine : Mk K (He.ga K "Machine") (He.ma K (He.ga K "Machine") "__init__")
  k_Marking : Mk K (He.ga K "Marking") (He.ma K (He.ga K "Marking") "__init__")
  k_Share : Mk K (He.ga K "Share") (He.ma K (He.ga K "Share") "__init__")
  k_Table : Mk K (He.ga K "Table") (He.ma K (He.ga K "Table") "__init__")
  l_abs : mg "abs" = none
  l_bool : mg "bool" = none
  l_enumerate : mg "enumerate" = none
  l_int : mg "int" = none
  l_isinstance : mg "isinstance" = none
  l_len : mg "len" = none
  l_list : mg "list" = none
  l_max : mg "max" = none
  l_min : mg "min" = none
  l_range : mg "range" = none
  l_set : mg "set" = none
  l_sorted : mg "sorted" = none
  l_str : mg "str" = none
  l_sum : mg "sum" = none
  l_tuple : mg "tuple" = none
  l_zip : mg "zip" = none
  m_Machine_all_weights : Meth K (He.ga K "Machine") "all_weights" (He.ma K (He.ga K "Machine") "all_weights")
  m_Machine_share_of : Meth K (He.ga K "Machine") "share_of" (He.ma K (He.ga K "Machine") "share_of")
  m_Machine_texts : Meth K (He.ga K "Machine") "texts" (He.ma K (He.ga K "Machine") "texts")
  m_Machine_weight_of : Meth K (He.ga K "Machine") "weight_of" (He.ma K (He.ga K "Machine") "weight_of")
  m_Marking_texts : Meth K (He.ga K "Marking") "texts" (He.ma K (He.ga K "Marking") "texts")
  m_Marking_written_share : Meth K (He.ga K "Marking") "written_share" (He.ma K (He.ga K "Marking") "written_share")
  m_Share___eq__ : Meth K (He.ga K "Share") "__eq__" (He.ma K (He.ga K "Share") "__eq__")
  m_Table_share_of : Meth K (He.ga K "Table") "share_of" (He.ma K (He.ga K "Table") "share_of")
  m_Table_texts : Meth K (He.ga K "Table") "texts" (He.ma K (He.ga K "Table") "texts")
  m_Table_weight_of : Meth K (He.ga K "Table") "weight_of" (He.ma K (He.ga K "Table") "weight_of")
  n_Machine_alphabet : NoAttr K (He.ga K "Machine") "alphabet"
  n_Machine_length : NoAttr K (He.ga K "Machine") "length"
  n_Machine_rows : NoAttr K (He.ga K "Machine") "rows"
  n_Machine_start : NoAttr K (He.ga K "Machine") "start"
  n_Machine_unit : NoAttr K (He.ga K "Machine") "unit"
  n_Machine_weights : NoAttr K (He.ga K "Machine") "weights"
  n_Machine_whole : NoAttr K (He.ga K "Machine") "whole"
  n_Marking_entries : NoAttr K (He.ga K "Marking") "entries"
  n_Marking_whole : NoAttr K (He.ga K "Marking") "whole"
  n_Share_over : NoAttr K (He.ga K "Share") "over"
  n_Share_under : NoAttr K (He.ga K "Share") "under"
  n_Table_weights : NoAttr K (He.ga K "Table") "weights"
  n_Table_whole : NoAttr K (He.ga K "Table") "whole"
  ne_Share : NeK K (He.ga K "Share")
section
variable {P : Program} {w : World} {K : PySem.W.Frag} {mg : Str → Option Value} {base : Heap}
/-! Marking.__init__ -/
theorem sc_Marking___init__ : FnScope ["self", "entries", "kept", "whole", "at", "weight", "text", "accused"] ["self", "entries"] (defScope s_Marking___init__) := ⟨rfl, rfl, rfl, by decide +kernel, rfl, by decide +kernel, by decide +kernel⟩
def w_Marking___init__ (y : (List (Int × Str × (List (Str))))) (k : ((List (Int × Str × (List (Str)))) × Int) → Prop) : Prop :=
  (Bnd ([] : List (Int × Str × (List (Str)))) fun kept_1 => (Bnd (0 : Int) fun whole_2 => WFor (enumA y) (kept_1, whole_2) (fun (nx5 : ((List (Int × Str × (List (Str)))) × Int) → Prop) (s3 : (List (Int × Str × (List (Str)))) × Int) x4 => if ((!true) || (false || (decide (x4.2.1 < (1 : Int))))) = true then (False) else ((s3.1).length < sizeLine ∧ ((Bnd (x4.2.1, x4.2.2.1, (sortS x4.2.2.2)) fun y7 => (Bnd (s3.2 + x4.2.1) fun whole_8 => nx5 ((s3.1 ++ [y7]), whole_8)))))) (fun (s3 : (List (Int × Str × (List (Str)))) × Int) => (Bnd s3.1 fun y9 => (Bnd s3.2 fun y10 => k (y9, y10))))))
theorem fo_Marking___init__ {fd : FuncData} (T : Txt K mg) (F : FunD K "__init__" "Marking.__init__" (defArgs s_Marking___init__) (defBody s_Marking___init__) (defScope s_Marking___init__) [] [] (He.fAd K ("Marking", some "__init__")) fd) : FnOk P w K mg base CX0 1 (He.fAd K ("Marking", some "__init__")) fd ["self", "entries"] (spI (He.ga K "Marking") ns_Marking (Row.one (tyL (tyT (Row.cons tyI (Row.cons tyS (Row.one (tyP tyS))))))) (Row.cons (tyP (tyT (Row.cons tyI (Row.cons tyS (Row.one (tyP tyS)))))) (Row.one tyI)) (w_Marking___init__)) :=
  fn_I (Γ0 := fun p y => [.ob p (He.ga K "Marking") [], .fz (tyL (tyT (Row.cons tyI (Row.cons tyS (Row.one (tyP tyS)))))) y, .no, .no, .no, .no, .no, .no]) F sc_Marking___init__ rfl (Nat.le_of_ble_eq_true rfl) rsl_one (fun _ _ => rfl) (fun cdv A outer s H E hr p y k => (y_setF (Γ := [.ob p (He.ga K "Marking") [], .fz (tyL (tyT (Row.cons tyI (Row.cons tyS (Row.one (tyP tyS)))))) y, .no, .no, .no, .no, .no, .no]) 2 sc_Marking___init__.nd rfl (.inl rfl) (xf_nil (A := (tyT (Row.cons tyI (Row.cons tyS (Row.one (tyP tyS))))))) id (fun kept_1 => (y_set (Γ := [.ob p (He.ga K "Marking") [], .fz (tyL (tyT (Row.cons tyI (Row.cons tyS (Row.one (tyP tyS)))))) y, .ml (tyT (Row.cons tyI (Row.cons tyS (Row.one (tyP tyS))))) kept_1, .no, .no, .no, .no, .no]) 3 sc_Marking___init__.nd rfl (.inl rfl) xe_int id (fun whole_2 => (y_for (Γ := [.ob p (He.ga K "Marking") [], .fz (tyL (tyT (Row.cons tyI (Row.cons tyS (Row.one (tyP tyS)))))) y, .ml (tyT (Row.cons tyI (Row.cons tyS (Row.one (tyP tyS))))) kept_1, .fz tyI whole_2, .no, .no, .no, .no]) (ΓT := fun (s3 : (List (Int × Str × (List (Str)))) × Int) (x4 : Int × (Int × Str × (List (Str)))) => [.ob p (He.ga K "Marking") [], .fz (tyL (tyT (Row.cons tyI (Row.cons tyS (Row.one (tyP tyS)))))) y, .ml (tyT (Row.cons tyI (Row.cons tyS (Row.one (tyP tyS))))) s3.1, .fz tyI s3.2, .fz tyI x4.1, .fz tyI x4.2.1, .fz tyS x4.2.2.1, .fz (tyP tyS) x4.2.2.2]) (fun s3 : (List (Int × Str × (List (Str)))) × Int => [.ob p (He.ga K "Marking") [], .fz (tyL (tyT (Row.cons tyI (Row.cons tyS (Row.one (tyP tyS)))))) y, .ml (tyT (Row.cons tyI (Row.cons tyS (Row.one (tyP tyS))))) s3.1, .fz tyI s3.2, .no, .no, .no, .no]) (kept_1, whole_2) PassesOwn.never rfl (xi_enumL T.l_enumerate (xe_var 1 rfl rfl (.inl rfl))) (Cv.refl _) (fun s3 => (xg_tup rfl (xgs_cons (xg_name 4 sc_Marking___init__.nd rfl (.inl rfl)) (fun _ => (xgs_one (xg_tup rfl (xgs_cons (xg_name 5 sc_Marking___init__.nd rfl (.inl rfl)) (fun _ => (xgs_cons (xg_name 6 sc_Marking___init__.nd rfl (.inl rfl)) (fun _ => (xgs_one (xg_name 7 sc_Marking___init__.nd rfl (.inl rfl))))))))))))) id (fun nx5 s3 x4 => by exact (y_if1 (Γ := [.ob p (He.ga K "Marking") [], .fz (tyL (tyT (Row.cons tyI (Row.cons tyS (Row.one (tyP tyS)))))) y, .ml (tyT (Row.cons tyI (Row.cons tyS (Row.one (tyP tyS))))) s3.1, .fz tyI s3.2, .fz tyI x4.1, .fz tyI x4.2.1, .fz tyS x4.2.2.1, .fz (tyP tyS) x4.2.2.2]) (xt_w (xw_orp (xt_not (xt_val (xe_isi (r := true) T.l_isinstance T.l_int (by decide +kernel) (by decide +kernel) (xe_var 5 rfl rfl (.inl rfl))))) (xw_orp (xt_val (xe_isi (r := false) T.l_isinstance T.l_bool (by decide +kernel) (by decide +kernel) (xe_var 5 rfl rfl (.inl rfl)))) (xw_or1 (xt_lt (xe_var 5 rfl rfl (.inl rfl)) xe_int)) rfl) rfl)) id (by exact (y_never id)) (by exact (y_app (Γ := [.ob p (He.ga K "Marking") [], .fz (tyL (tyT (Row.cons tyI (Row.cons tyS (Row.one (tyP tyS)))))) y, .ml (tyT (Row.cons tyI (Row.cons tyS (Row.one (tyP tyS))))) s3.1, .fz tyI s3.2, .fz tyI x4.1, .fz tyI x4.2.1, .fz tyS x4.2.2.1, .fz (tyP tyS) x4.2.2.2]) 2 rfl rfl (.inl rfl) (xe_tup (xa_cons (xe_var 5 rfl rfl (.inl rfl)) (xa_cons (xe_var 6 rfl rfl (.inl rfl)) (xa_one (xe_tupleL T.l_tuple (xl_of (xe_f (xf_sortP hr.units T.l_sorted (xe_var 7 rfl rfl (.inl rfl)))))))))) id (fun y7 => (y_augAdd (Γ := [.ob p (He.ga K "Marking") [], .fz (tyL (tyT (Row.cons tyI (Row.cons tyS (Row.one (tyP tyS)))))) y, .ml (tyT (Row.cons tyI (Row.cons tyS (Row.one (tyP tyS))))) (s3.1 ++ [y7]), .fz tyI s3.2, .fz tyI x4.1, .fz tyI x4.2.1, .fz tyS x4.2.2.1, .fz (tyP tyS) x4.2.2.2]) 3 sc_Marking___init__.nd rfl (.inl rfl) rfl (xe_var 5 rfl rfl (.inl rfl)) id (fun whole_8 => (y_join (ΓJ := fun s3 : (List (Int × Str × (List (Str)))) × Int => [.ob p (He.ga K "Marking") [], .fz (tyL (tyT (Row.cons tyI (Row.cons tyS (Row.one (tyP tyS)))))) y, .ml (tyT (Row.cons tyI (Row.cons tyS (Row.one (tyP tyS))))) s3.1, .fz tyI s3.2, .no, .no, .no, .no]) ((s3.1 ++ [y7]), whole_8) (Wk.cv (.same (.same (.same (.same (.no (.no (.no (.no .nil))))))))) rfl id)))))))) (fun s3 => by exact (y_fldNew (Γ := [.ob p (He.ga K "Marking") [], .fz (tyL (tyT (Row.cons tyI (Row.cons tyS (Row.one (tyP tyS)))))) y, .ml (tyT (Row.cons tyI (Row.cons tyS (Row.one (tyP tyS))))) s3.1, .fz tyI s3.2, .no, .no, .no, .no]) 0 [] rfl rfl (.inl rfl) T.c_Marking T.n_Marking_entries rfl (by decide +kernel) (xe_tupleL T.l_tuple (xl_own 2 rfl rfl (.inl rfl))) id (fun y9 => (y_fldNew (Γ := [.ob p (He.ga K "Marking") [("entries", ⟨(tyP (tyT (Row.cons tyI (Row.cons tyS (Row.one (tyP tyS)))))), y9⟩)], .fz (tyL (tyT (Row.cons tyI (Row.cons tyS (Row.one (tyP tyS)))))) y, .ml (tyT (Row.cons tyI (Row.cons tyS (Row.one (tyP tyS))))) s3.1, .fz tyI s3.2, .no, .no, .no, .no]) 0 ["entries"] rfl rfl (.inl rfl) T.c_Marking T.n_Marking_whole rfl (by decide +kernel) (xe_var 3 rfl rfl (.inl rfl)) id (fun y10 => (y_initEnd (Γ := [.ob p (He.ga K "Marking") [("entries", ⟨(tyP (tyT (Row.cons tyI (Row.cons tyS (Row.one (tyP tyS)))))), y9⟩), ("whole", ⟨tyI, y10⟩)], .fz (tyL (tyT (Row.cons tyI (Row.cons tyS (Row.one (tyP tyS)))))) y, .ml (tyT (Row.cons tyI (Row.cons tyS (Row.one (tyP tyS))))) s3.1, .fz tyI s3.2, .no, .no, .no, .no]) (y9, y10) rfl rfl (rf_cons rf_one) rfl id))))))))))))
theorem ok_Marking___init__ (T : Txt K mg) : CleI P w K mg base "Marking" (He.ga K "Marking") 1 (spI (He.ga K "Marking") ns_Marking (Row.one (tyL (tyT (Row.cons tyI (Row.cons tyS (Row.one (tyP tyS))))))) (Row.cons (tyP (tyT (Row.cons tyI (Row.cons tyS (Row.one (tyP tyS)))))) (Row.one tyI)) (w_Marking___init__)) :=
  let ⟨_, F⟩ := T.f_Marking___init__
  ⟨_, _, _, fo_Marking___init__ T F, T.k_Marking, T.g_Marking, F.bindsN (fun _ _ _ _ _ _ us hl => match us, hl with | [_, _], _ => rfl)⟩
theorem fo_Marking___init___v1 {fd : FuncData} (T : Txt K mg) (F : FunD K "__init__" "Marking.__init__" (defArgs s_Marking___init__) (defBody s_Marking___init__) (defScope s_Marking___init__) [] [] (He.fAd K ("Marking", some "__init__")) fd) : FnOk P w K mg base CX0 1 (He.fAd K ("Marking", some "__init__")) fd ["self", "entries"] (spI (He.ga K "Marking") ns_Marking (Row.one (tyL (tyT (Row.cons tyI (Row.cons tyS (Row.one (tyL tyS))))))) (Row.cons (tyP (tyT (Row.cons tyI (Row.cons tyS (Row.one (tyP tyS)))))) (Row.one tyI)) (w_Marking___init__)) :=
  fn_I (Γ0 := fun p y => [.ob p (He.ga K "Marking") [], .fz (tyL (tyT (Row.cons tyI (Row.cons tyS (Row.one (tyL tyS)))))) y, .no, .no, .no, .no, .no, .no]) F sc_Marking___init__ rfl (Nat.le_of_ble_eq_true rfl) rsl_one (fun _ _ => rfl) (fun cdv A outer s H E hr p y k => (y_setF (Γ := [.ob p (He.ga K "Marking") [], .fz (tyL (tyT (Row.cons tyI (Row.cons tyS (Row.one (tyL tyS)))))) y, .no, .no, .no, .no, .no, .no]) 2 sc_Marking___init__.nd rfl (.inl rfl) (xf_nil (A := (tyT (Row.cons tyI (Row.cons tyS (Row.one (tyP tyS))))))) id (fun kept_1 => (y_set (Γ := [.ob p (He.ga K "Marking") [], .fz (tyL (tyT (Row.cons tyI (Row.cons tyS (Row.one (tyL tyS)))))) y, .ml (tyT (Row.cons tyI (Row.cons tyS (Row.one (tyP tyS))))) kept_1, .no, .no, .no, .no, .no]) 3 sc_Marking___init__.nd rfl (.inl rfl) xe_int id (fun whole_2 => (y_for (Γ := [.ob p (He.ga K "Marking") [], .fz (tyL (tyT (Row.cons tyI (Row.cons tyS (Row.one (tyL tyS)))))) y, .ml (tyT (Row.cons tyI (Row.cons tyS (Row.one (tyP tyS))))) kept_1, .fz tyI whole_2, .no, .no, .no, .no]) (ΓT := fun (s3 : (List (Int × Str × (List (Str)))) × Int) (x4 : Int × (Int × Str × (List (Str)))) => [.ob p (He.ga K "Marking") [], .fz (tyL (tyT (Row.cons tyI (Row.cons tyS (Row.one (tyL tyS)))))) y, .ml (tyT (Row.cons tyI (Row.cons tyS (Row.one (tyP tyS))))) s3.1, .fz tyI s3.2, .fz tyI x4.1, .fz tyI x4.2.1, .fz tyS x4.2.2.1, .fz (tyL tyS) x4.2.2.2]) (fun s3 : (List (Int × Str × (List (Str)))) × Int => [.ob p (He.ga K "Marking") [], .fz (tyL (tyT (Row.cons tyI (Row.cons tyS (Row.one (tyL tyS)))))) y, .ml (tyT (Row.cons tyI (Row.cons tyS (Row.one (tyP tyS))))) s3.1, .fz tyI s3.2, .no, .no, .no, .no]) (kept_1, whole_2) PassesOwn.never rfl (xi_enumL T.l_enumerate (xe_var 1 rfl rfl (.inl rfl))) (Cv.refl _) (fun s3 => (xg_tup rfl (xgs_cons (xg_name 4 sc_Marking___init__.nd rfl (.inl rfl)) (fun _ => (xgs_one (xg_tup rfl (xgs_cons (xg_name 5 sc_Marking___init__.nd rfl (.inl rfl)) (fun _ => (xgs_cons (xg_name 6 sc_Marking___init__.nd rfl (.inl rfl)) (fun _ => (xgs_one (xg_name 7 sc_Marking___init__.nd rfl (.inl rfl))))))))))))) id (fun nx5 s3 x4 => by exact (y_if1 (Γ := [.ob p (He.ga K "Marking") [], .fz (tyL (tyT (Row.cons tyI (Row.cons tyS (Row.one (tyL tyS)))))) y, .ml (tyT (Row.cons tyI (Row.cons tyS (Row.one (tyP tyS))))) s3.1, .fz tyI s3.2, .fz tyI x4.1, .fz tyI x4.2.1, .fz tyS x4.2.2.1, .fz (tyL tyS) x4.2.2.2]) (xt_w (xw_orp (xt_not (xt_val (xe_isi (r := true) T.l_isinstance T.l_int (by decide +kernel) (by decide +kernel) (xe_var 5 rfl rfl (.inl rfl))))) (xw_orp (xt_val (xe_isi (r := false) T.l_isinstance T.l_bool (by decide +kernel) (by decide +kernel) (xe_var 5 rfl rfl (.inl rfl)))) (xw_or1 (xt_lt (xe_var 5 rfl rfl (.inl rfl)) xe_int)) rfl) rfl)) id (by exact (y_never id)) (by exact (y_app (Γ := [.ob p (He.ga K "Marking") [], .fz (tyL (tyT (Row.cons tyI (Row.cons tyS (Row.one (tyL tyS)))))) y, .ml (tyT (Row.cons tyI (Row.cons tyS (Row.one (tyP tyS))))) s3.1, .fz tyI s3.2, .fz tyI x4.1, .fz tyI x4.2.1, .fz tyS x4.2.2.1, .fz (tyL tyS) x4.2.2.2]) 2 rfl rfl (.inl rfl) (xe_tup (xa_cons (xe_var 5 rfl rfl (.inl rfl)) (xa_cons (xe_var 6 rfl rfl (.inl rfl)) (xa_one (xe_tupleL T.l_tuple (xl_of (xe_f (xf_sortSn T.l_sorted hr.units (xl_of (xe_var 7 rfl rfl (.inl rfl))))))))))) id (fun y7 => (y_augAdd (Γ := [.ob p (He.ga K "Marking") [], .fz (tyL (tyT (Row.cons tyI (Row.cons tyS (Row.one (tyL tyS)))))) y, .ml (tyT (Row.cons tyI (Row.cons tyS (Row.one (tyP tyS))))) (s3.1 ++ [y7]), .fz tyI s3.2, .fz tyI x4.1, .fz tyI x4.2.1, .fz tyS x4.2.2.1, .fz (tyL tyS) x4.2.2.2]) 3 sc_Marking___init__.nd rfl (.inl rfl) rfl (xe_var 5 rfl rfl (.inl rfl)) id (fun whole_8 => (y_join (ΓJ := fun s3 : (List (Int × Str × (List (Str)))) × Int => [.ob p (He.ga K "Marking") [], .fz (tyL (tyT (Row.cons tyI (Row.cons tyS (Row.one (tyL tyS)))))) y, .ml (tyT (Row.cons tyI (Row.cons tyS (Row.one (tyP tyS))))) s3.1, .fz tyI s3.2, .no, .no, .no, .no]) ((s3.1 ++ [y7]), whole_8) (Wk.cv (.same (.same (.same (.same (.no (.no (.no (.no .nil))))))))) rfl id)))))))) (fun s3 => by exact (y_fldNew (Γ := [.ob p (He.ga K "Marking") [], .fz (tyL (tyT (Row.cons tyI (Row.cons tyS (Row.one (tyL tyS)))))) y, .ml (tyT (Row.cons tyI (Row.cons tyS (Row.one (tyP tyS))))) s3.1, .fz tyI s3.2, .no, .no, .no, .no]) 0 [] rfl rfl (.inl rfl) T.c_Marking T.n_Marking_entries rfl (by decide +kernel) (xe_tupleL T.l_tuple (xl_own 2 rfl rfl (.inl rfl))) id (fun y9 => (y_fldNew (Γ := [.ob p (He.ga K "Marking") [("entries", ⟨(tyP (tyT (Row.cons tyI (Row.cons tyS (Row.one (tyP tyS)))))), y9⟩)], .fz (tyL (tyT (Row.cons tyI (Row.cons tyS (Row.one (tyL tyS)))))) y, .ml (tyT (Row.cons tyI (Row.cons tyS (Row.one (tyP tyS))))) s3.1, .fz tyI s3.2, .no, .no, .no, .no]) 0 ["entries"] rfl rfl (.inl rfl) T.c_Marking T.n_Marking_whole rfl (by decide +kernel) (xe_var 3 rfl rfl (.inl rfl)) id (fun y10 => (y_initEnd (Γ := [.ob p (He.ga K "Marking") [("entries", ⟨(tyP (tyT (Row.cons tyI (Row.cons tyS (Row.one (tyP tyS)))))), y9⟩), ("whole", ⟨tyI, y10⟩)], .fz (tyL (tyT (Row.cons tyI (Row.cons tyS (Row.one (tyL tyS)))))) y, .ml (tyT (Row.cons tyI (Row.cons tyS (Row.one (tyP tyS))))) s3.1, .fz tyI s3.2, .no, .no, .no, .no]) (y9, y10) rfl rfl (rf_cons rf_one) rfl id))))))))))))
theorem ok_Marking___init___v1 (T : Txt K mg) : CleI P w K mg base "Marking" (He.ga K "Marking") 1 (spI (He.ga K "Marking") ns_Marking (Row.one (tyL (tyT (Row.cons tyI (Row.cons tyS (Row.one (tyL tyS))))))) (Row.cons (tyP (tyT (Row.cons tyI (Row.cons tyS (Row.one (tyP tyS)))))) (Row.one tyI)) (w_Marking___init__)) :=
  let ⟨_, F⟩ := T.f_Marking___init__
  ⟨_, _, _, fo_Marking___init___v1 T F, T.k_Marking, T.g_Marking, F.bindsN (fun _ _ _ _ _ _ us hl => match us, hl with | [_, _], _ => rfl)⟩
/-! _is_integer -/
theorem sc_is_integer : FnScope ["value"] ["value"] (defScope s_is_integer) := ⟨rfl, rfl, rfl, by decide +kernel, rfl, by decide +kernel, by decide +kernel⟩
def w_is_integer (y : Int) (k : Bool → Prop) : Prop :=
  k (true && (!false))
theorem fo_is_integer {fd : FuncData} (T : Txt K mg) (F : FunD K "_is_integer" "_is_integer" (defArgs s_is_integer) (defBody s_is_integer) (defScope s_is_integer) [] [] (He.fAd K ("_is_integer", none)) fd) : FnOk P w K mg base CX0 1 (He.fAd K ("_is_integer", none)) fd ["value"] (spP (Row.one tyI) tyB (w_is_integer)) :=
  fn_P (Γ0 := fun y => [.fz tyI y]) (kn := fun _ => False) F sc_is_integer rfl (Nat.le_of_ble_eq_true rfl) rsl_one (fun _ => rfl) (fun _ _ h => h.elim) (fun cdv A outer s H E hr y k => (y_ret (Γ := [.fz tyI y]) (xe_andp (xe_isi (r := true) T.l_isinstance T.l_int (by decide +kernel) (by decide +kernel) (xe_var 0 rfl rfl (.inl rfl))) (xe_one (xe_not (xe_isi (r := false) T.l_isinstance T.l_bool (by decide +kernel) (by decide +kernel) (xe_var 0 rfl rfl (.inl rfl))))) rfl) id))
theorem ok_is_integer (T : Txt K mg) : Cle P w K mg base "_is_integer" 1 (spP (Row.one tyI) tyB (w_is_integer)) :=
  let ⟨_, F⟩ := T.f_is_integer
  ⟨_, _, _, fo_is_integer T F, T.g_is_integer, F.kp, F.bindsN (fun _ _ _ _ _ _ us hl => match us, hl with | [_], _ => rfl)⟩
/-! Table.__init__ -/
theorem sc_Table___init__ : FnScope ["self", "pairs", "weights", "at", "text", "weight"] ["self", "pairs"] (defScope s_Table___init__) := ⟨rfl, rfl, rfl, by decide +kernel, rfl, by decide +kernel, by decide +kernel⟩
def w_Table___init__ (y : (List (Str × Int))) (k : ((List (Str × (Int))) × Int) → Prop) : Prop :=
  WFor (enumA y) ([] : List (Str × (Int))) (fun (nx3 : ((List (Str × (Int)))) → Prop) (s1 : (List (Str × (Int)))) x2 => w_is_integer x2.2.2 (fun r5 => if ((!r5) || ((decide (x2.2.2 < (1 : Int))) || ((look s1 x2.2.1).isSome))) = true then (False) else ((s1).length < sizeLine ∧ ((Bnd (put s1 x2.2.1 x2.2.2) fun weights_6 => nx3 weights_6))))) (fun (s1 : (List (Str × (Int)))) => (Bnd s1 fun y7 => (Bnd ((s1.map (·.2)).sum) fun y8 => k (y7, y8))))
theorem fo_Table___init__ {fd : FuncData} (T : Txt K mg) (F : FunD K "__init__" "Table.__init__" (defArgs s_Table___init__) (defBody s_Table___init__) (defScope s_Table___init__) [] [] (He.fAd K ("Table", some "__init__")) fd) : FnOk P w K mg base CX0 2 (He.fAd K ("Table", some "__init__")) fd ["self", "pairs"] (spI (He.ga K "Table") ns_Table (Row.one (tyL (tyT (Row.cons tyS (Row.one tyI))))) (Row.cons (tyD tyI) (Row.one tyI)) (w_Table___init__)) :=
  fn_I (Γ0 := fun p y => [.ob p (He.ga K "Table") [], .fz (tyL (tyT (Row.cons tyS (Row.one tyI)))) y, .no, .no, .no, .no]) F sc_Table___init__ rfl (Nat.le_of_ble_eq_true rfl) rsl_one (fun _ _ => rfl) (fun cdv A outer s H E hr p y k => (xb_newD (Γ := [.ob p (He.ga K "Table") [], .fz (tyL (tyT (Row.cons tyS (Row.one tyI)))) y, .no, .no, .no, .no]) 2 tyI sc_Table___init__.nd rfl (.inl rfl) (y_for (Γ := [.ob p (He.ga K "Table") [], .fz (tyL (tyT (Row.cons tyS (Row.one tyI)))) y, .md tyI ([] : List (Str × (Int))), .no, .no, .no]) (ΓT := fun (s1 : (List (Str × (Int)))) (x2 : Int × (Str × Int)) => [.ob p (He.ga K "Table") [], .fz (tyL (tyT (Row.cons tyS (Row.one tyI)))) y, .md tyI s1, .fz tyI x2.1, .fz tyS x2.2.1, .fz tyI x2.2.2]) (fun s1 : (List (Str × (Int))) => [.ob p (He.ga K "Table") [], .fz (tyL (tyT (Row.cons tyS (Row.one tyI)))) y, .md tyI s1, .no, .no, .no]) ([] : List (Str × (Int))) PassesOwn.never rfl (xi_enumL T.l_enumerate (xe_var 1 rfl rfl (.inl rfl))) (Cv.refl _) (fun s1 => (xg_tup rfl (xgs_cons (xg_name 3 sc_Table___init__.nd rfl (.inl rfl)) (fun _ => (xgs_one (xg_tup rfl (xgs_cons (xg_name 4 sc_Table___init__.nd rfl (.inl rfl)) (fun _ => (xgs_one (xg_name 5 sc_Table___init__.nd rfl (.inl rfl))))))))))) id (fun nx3 s1 x2 => by exact (y_if1 (Γ := [.ob p (He.ga K "Table") [], .fz (tyL (tyT (Row.cons tyS (Row.one tyI)))) y, .md tyI s1, .fz tyI x2.1, .fz tyS x2.2.1, .fz tyI x2.2.2]) (xt_w (xw_orp (xt_not (xt_val (xe_call (ok_is_integer T) (hr.mono (by decide)) (xa_one (xe_var 5 rfl rfl (.inl rfl)))))) (xw_orp (xt_lt (xe_var 5 rfl rfl (.inl rfl)) xe_int) (xw_or1 (xt_inD (hu_of hr) (xe_var 4 rfl rfl (.inl rfl)) (xd_own 2 rfl rfl (.inl rfl)))) rfl) rfl)) id (by exact (y_never id)) (by exact (y_put (Γ := [.ob p (He.ga K "Table") [], .fz (tyL (tyT (Row.cons tyS (Row.one tyI)))) y, .md tyI s1, .fz tyI x2.1, .fz tyS x2.2.1, .fz tyI x2.2.2]) 2 (hu_of hr) rfl rfl (.inl rfl) (xe_var 5 rfl rfl (.inl rfl)) (xe_var 4 rfl rfl (.inl rfl)) id (fun weights_6 => (y_join (ΓJ := fun s1 : (List (Str × (Int))) => [.ob p (He.ga K "Table") [], .fz (tyL (tyT (Row.cons tyS (Row.one tyI)))) y, .md tyI s1, .no, .no, .no]) weights_6 (Wk.cv (.same (.same (.same (.no (.no (.no .nil))))))) rfl id)))))) (fun s1 => by exact (xb_cv (cv_md 2 rfl) (y_fldNew (Γ := [.ob p (He.ga K "Table") [], .fz (tyL (tyT (Row.cons tyS (Row.one tyI)))) y, .fz (tyD tyI) s1, .no, .no, .no]) 0 [] rfl rfl (.inl rfl) T.c_Table T.n_Table_weights rfl (by decide +kernel) (xe_var 2 rfl rfl (.inl rfl)) id (fun y7 => (y_fldNew (Γ := [.ob p (He.ga K "Table") [("weights", ⟨(tyD tyI), y7⟩)], .fz (tyL (tyT (Row.cons tyS (Row.one tyI)))) y, .fz (tyD tyI) s1, .no, .no, .no]) 0 ["weights"] rfl rfl (.inl rfl) T.c_Table T.n_Table_whole rfl (by decide +kernel) (xe_sumV rfl T.l_sum (xd_of (xe_var 2 rfl rfl (.inl rfl)))) id (fun y8 => (y_initEnd (Γ := [.ob p (He.ga K "Table") [("weights", ⟨(tyD tyI), y7⟩), ("whole", ⟨tyI, y8⟩)], .fz (tyL (tyT (Row.cons tyS (Row.one tyI)))) y, .fz (tyD tyI) s1, .no, .no, .no]) (y7, y8) rfl rfl (rf_cons rf_one) rfl id))))))))))
theorem ok_Table___init__ (T : Txt K mg) : CleI P w K mg base "Table" (He.ga K "Table") 2 (spI (He.ga K "Table") ns_Table (Row.one (tyL (tyT (Row.cons tyS (Row.one tyI))))) (Row.cons (tyD tyI) (Row.one tyI)) (w_Table___init__)) :=
  let ⟨_, F⟩ := T.f_Table___init__
  ⟨_, _, _, fo_Table___init__ T F, T.k_Table, T.g_Table, F.bindsN (fun _ _ _ _ _ _ us hl => match us, hl with | [_, _], _ => rfl)⟩
theorem fo_Table___init___v1 {fd : FuncData} (T : Txt K mg) (F : FunD K "__init__" "Table.__init__" (defArgs s_Table___init__) (defBody s_Table___init__) (defScope s_Table___init__) [] [] (He.fAd K ("Table", some "__init__")) fd) : FnOk P w K mg base CX0 2 (He.fAd K ("Table", some "__init__")) fd ["self", "pairs"] (spI (He.ga K "Table") ns_Table (Row.one (tyL (tyM (Row.cons tyS (Row.one tyI))))) (Row.cons (tyD tyI) (Row.one tyI)) (w_Table___init__)) :=
  fn_I (Γ0 := fun p y => [.ob p (He.ga K "Table") [], .fz (tyL (tyM (Row.cons tyS (Row.one tyI)))) y, .no, .no, .no, .no]) F sc_Table___init__ rfl (Nat.le_of_ble_eq_true rfl) rsl_one (fun _ _ => rfl) (fun cdv A outer s H E hr p y k => (xb_newD (Γ := [.ob p (He.ga K "Table") [], .fz (tyL (tyM (Row.cons tyS (Row.one tyI)))) y, .no, .no, .no, .no]) 2 tyI sc_Table___init__.nd rfl (.inl rfl) (y_for (Γ := [.ob p (He.ga K "Table") [], .fz (tyL (tyM (Row.cons tyS (Row.one tyI)))) y, .md tyI ([] : List (Str × (Int))), .no, .no, .no]) (ΓT := fun (s1 : (List (Str × (Int)))) (x2 : Int × (Str × Int)) => [.ob p (He.ga K "Table") [], .fz (tyL (tyM (Row.cons tyS (Row.one tyI)))) y, .md tyI s1, .fz tyI x2.1, .fz tyS x2.2.1, .fz tyI x2.2.2]) (fun s1 : (List (Str × (Int))) => [.ob p (He.ga K "Table") [], .fz (tyL (tyM (Row.cons tyS (Row.one tyI)))) y, .md tyI s1, .no, .no, .no]) ([] : List (Str × (Int))) PassesOwn.never rfl (xi_enumL T.l_enumerate (xe_var 1 rfl rfl (.inl rfl))) (Cv.refl _) (fun s1 => (xg_tup rfl (xgs_cons (xg_name 3 sc_Table___init__.nd rfl (.inl rfl)) (fun _ => (xgs_one (xg_lst rfl (xgs_cons (xg_name 4 sc_Table___init__.nd rfl (.inl rfl)) (fun _ => (xgs_one (xg_name 5 sc_Table___init__.nd rfl (.inl rfl))))))))))) id (fun nx3 s1 x2 => by exact (y_if1 (Γ := [.ob p (He.ga K "Table") [], .fz (tyL (tyM (Row.cons tyS (Row.one tyI)))) y, .md tyI s1, .fz tyI x2.1, .fz tyS x2.2.1, .fz tyI x2.2.2]) (xt_w (xw_orp (xt_not (xt_val (xe_call (ok_is_integer T) (hr.mono (by decide)) (xa_one (xe_var 5 rfl rfl (.inl rfl)))))) (xw_orp (xt_lt (xe_var 5 rfl rfl (.inl rfl)) xe_int) (xw_or1 (xt_inD (hu_of hr) (xe_var 4 rfl rfl (.inl rfl)) (xd_own 2 rfl rfl (.inl rfl)))) rfl) rfl)) id (by exact (y_never id)) (by exact (y_put (Γ := [.ob p (He.ga K "Table") [], .fz (tyL (tyM (Row.cons tyS (Row.one tyI)))) y, .md tyI s1, .fz tyI x2.1, .fz tyS x2.2.1, .fz tyI x2.2.2]) 2 (hu_of hr) rfl rfl (.inl rfl) (xe_var 5 rfl rfl (.inl rfl)) (xe_var 4 rfl rfl (.inl rfl)) id (fun weights_6 => (y_join (ΓJ := fun s1 : (List (Str × (Int))) => [.ob p (He.ga K "Table") [], .fz (tyL (tyM (Row.cons tyS (Row.one tyI)))) y, .md tyI s1, .no, .no, .no]) weights_6 (Wk.cv (.same (.same (.same (.no (.no (.no .nil))))))) rfl id)))))) (fun s1 => by exact (xb_cv (cv_md 2 rfl) (y_fldNew (Γ := [.ob p (He.ga K "Table") [], .fz (tyL (tyM (Row.cons tyS (Row.one tyI)))) y, .fz (tyD tyI) s1, .no, .no, .no]) 0 [] rfl rfl (.inl rfl) T.c_Table T.n_Table_weights rfl (by decide +kernel) (xe_var 2 rfl rfl (.inl rfl)) id (fun y7 => (y_fldNew (Γ := [.ob p (He.ga K "Table") [("weights", ⟨(tyD tyI), y7⟩)], .fz (tyL (tyM (Row.cons tyS (Row.one tyI)))) y, .fz (tyD tyI) s1, .no, .no, .no]) 0 ["weights"] rfl rfl (.inl rfl) T.c_Table T.n_Table_whole rfl (by decide +kernel) (xe_sumV rfl T.l_sum (xd_of (xe_var 2 rfl rfl (.inl rfl)))) id (fun y8 => (y_initEnd (Γ := [.ob p (He.ga K "Table") [("weights", ⟨(tyD tyI), y7⟩), ("whole", ⟨tyI, y8⟩)], .fz (tyL (tyM (Row.cons tyS (Row.one tyI)))) y, .fz (tyD tyI) s1, .no, .no, .no]) (y7, y8) rfl rfl (rf_cons rf_one) rfl id))))))))))
theorem ok_Table___init___v1 (T : Txt K mg) : CleI P w K mg base "Table" (He.ga K "Table") 2 (spI (He.ga K "Table") ns_Table (Row.one (tyL (tyM (Row.cons tyS (Row.one tyI))))) (Row.cons (tyD tyI) (Row.one tyI)) (w_Table___init__)) :=
  let ⟨_, F⟩ := T.f_Table___init__
  ⟨_, _, _, fo_Table___init___v1 T F, T.k_Table, T.g_Table, F.bindsN (fun _ _ _ _ _ _ us hl => match us, hl with | [_, _], _ => rfl)⟩
theorem fo_Table___init___v2 {fd : FuncData} (T : Txt K mg) (F : FunD K "__init__" "Table.__init__" (defArgs s_Table___init__) (defBody s_Table___init__) (defScope s_Table___init__) [] [] (He.fAd K ("Table", some "__init__")) fd) : FnOk P w K mg base CX0 2 (He.fAd K ("Table", some "__init__")) fd ["self", "pairs"] (spI (He.ga K "Table") ns_Table (Row.one (tyP (tyT (Row.cons tyS (Row.one tyI))))) (Row.cons (tyD tyI) (Row.one tyI)) (w_Table___init__)) :=
  fn_I (Γ0 := fun p y => [.ob p (He.ga K "Table") [], .fz (tyP (tyT (Row.cons tyS (Row.one tyI)))) y, .no, .no, .no, .no]) F sc_Table___init__ rfl (Nat.le_of_ble_eq_true rfl) rsl_one (fun _ _ => rfl) (fun cdv A outer s H E hr p y k => (xb_newD (Γ := [.ob p (He.ga K "Table") [], .fz (tyP (tyT (Row.cons tyS (Row.one tyI)))) y, .no, .no, .no, .no]) 2 tyI sc_Table___init__.nd rfl (.inl rfl) (y_for (Γ := [.ob p (He.ga K "Table") [], .fz (tyP (tyT (Row.cons tyS (Row.one tyI)))) y, .md tyI ([] : List (Str × (Int))), .no, .no, .no]) (ΓT := fun (s1 : (List (Str × (Int)))) (x2 : Int × (Str × Int)) => [.ob p (He.ga K "Table") [], .fz (tyP (tyT (Row.cons tyS (Row.one tyI)))) y, .md tyI s1, .fz tyI x2.1, .fz tyS x2.2.1, .fz tyI x2.2.2]) (fun s1 : (List (Str × (Int))) => [.ob p (He.ga K "Table") [], .fz (tyP (tyT (Row.cons tyS (Row.one tyI)))) y, .md tyI s1, .no, .no, .no]) ([] : List (Str × (Int))) PassesOwn.never rfl (xi_enumP T.l_enumerate (xe_var 1 rfl rfl (.inl rfl))) (Cv.refl _) (fun s1 => (xg_tup rfl (xgs_cons (xg_name 3 sc_Table___init__.nd rfl (.inl rfl)) (fun _ => (xgs_one (xg_tup rfl (xgs_cons (xg_name 4 sc_Table___init__.nd rfl (.inl rfl)) (fun _ => (xgs_one (xg_name 5 sc_Table___init__.nd rfl (.inl rfl))))))))))) id (fun nx3 s1 x2 => by exact (y_if1 (Γ := [.ob p (He.ga K "Table") [], .fz (tyP (tyT (Row.cons tyS (Row.one tyI)))) y, .md tyI s1, .fz tyI x2.1, .fz tyS x2.2.1, .fz tyI x2.2.2]) (xt_w (xw_orp (xt_not (xt_val (xe_call (ok_is_integer T) (hr.mono (by decide)) (xa_one (xe_var 5 rfl rfl (.inl rfl)))))) (xw_orp (xt_lt (xe_var 5 rfl rfl (.inl rfl)) xe_int) (xw_or1 (xt_inD (hu_of hr) (xe_var 4 rfl rfl (.inl rfl)) (xd_own 2 rfl rfl (.inl rfl)))) rfl) rfl)) id (by exact (y_never id)) (by exact (y_put (Γ := [.ob p (He.ga K "Table") [], .fz (tyP (tyT (Row.cons tyS (Row.one tyI)))) y, .md tyI s1, .fz tyI x2.1, .fz tyS x2.2.1, .fz tyI x2.2.2]) 2 (hu_of hr) rfl rfl (.inl rfl) (xe_var 5 rfl rfl (.inl rfl)) (xe_var 4 rfl rfl (.inl rfl)) id (fun weights_6 => (y_join (ΓJ := fun s1 : (List (Str × (Int))) => [.ob p (He.ga K "Table") [], .fz (tyP (tyT (Row.cons tyS (Row.one tyI)))) y, .md tyI s1, .no, .no, .no]) weights_6 (Wk.cv (.same (.same (.same (.no (.no (.no .nil))))))) rfl id)))))) (fun s1 => by exact (xb_cv (cv_md 2 rfl) (y_fldNew (Γ := [.ob p (He.ga K "Table") [], .fz (tyP (tyT (Row.cons tyS (Row.one tyI)))) y, .fz (tyD tyI) s1, .no, .no, .no]) 0 [] rfl rfl (.inl rfl) T.c_Table T.n_Table_weights rfl (by decide +kernel) (xe_var 2 rfl rfl (.inl rfl)) id (fun y7 => (y_fldNew (Γ := [.ob p (He.ga K "Table") [("weights", ⟨(tyD tyI), y7⟩)], .fz (tyP (tyT (Row.cons tyS (Row.one tyI)))) y, .fz (tyD tyI) s1, .no, .no, .no]) 0 ["weights"] rfl rfl (.inl rfl) T.c_Table T.n_Table_whole rfl (by decide +kernel) (xe_sumV rfl T.l_sum (xd_of (xe_var 2 rfl rfl (.inl rfl)))) id (fun y8 => (y_initEnd (Γ := [.ob p (He.ga K "Table") [("weights", ⟨(tyD tyI), y7⟩), ("whole", ⟨tyI, y8⟩)], .fz (tyP (tyT (Row.cons tyS (Row.one tyI)))) y, .fz (tyD tyI) s1, .no, .no, .no]) (y7, y8) rfl rfl (rf_cons rf_one) rfl id))))))))))
theorem ok_Table___init___v2 (T : Txt K mg) : CleI P w K mg base "Table" (He.ga K "Table") 2 (spI (He.ga K "Table") ns_Table (Row.one (tyP (tyT (Row.cons tyS (Row.one tyI))))) (Row.cons (tyD tyI) (Row.one tyI)) (w_Table___init__)) :=
  let ⟨_, F⟩ := T.f_Table___init__
  ⟨_, _, _, fo_Table___init___v2 T F, T.k_Table, T.g_Table, F.bindsN (fun _ _ _ _ _ _ us hl => match us, hl with | [_, _], _ => rfl)⟩
/-! _law_draw -/
theorem sc_law_draw : FnScope ["state", "limit", "cell", "got"] ["state", "limit"] (defScope s_law_draw) := ⟨rfl, rfl, rfl, by decide +kernel, rfl, by decide +kernel, by decide +kernel⟩
def w_law_draw_in (y : Int) (u : tSt) (k : Int → Prop) : Prop :=
  (Jn (fun s1 : Int => (Jn (fun s2 : ((List (Int)) × Int × Int × Int × Int) => if (decide ((0 : Int) < s2.2.2.1)) = true then (0 < s1 ∧ ((Bnd (s2.2.2.1 % s1) fun got_3 => CDivW s2.2.2.1 s1 ∧ ((Bnd (s2.1, s2.2.1, (s2.2.2.1 / s1), s2.2.2.2.1, s2.2.2.2.2) fun st4 => (Bnd (st4.1, st4.2.1, st4.2.2.1, (st4.2.2.2.1 - (1 : Int)), st4.2.2.2.2) fun st5 => (Jn (fun s6 : ((List (Int)) × Int × Int × Int × Int) => (Ist s6 ∧ k got_3)) fun j7 => if ((decide (st5.2.2.1 = (0 : Int))) || (decide (st5.2.2.2.1 = (0 : Int)))) = true then (Bnd (st5.1, st5.2.1, (0 : Int), st5.2.2.2.1, st5.2.2.2.2) fun st8 => (Bnd (st8.1, st8.2.1, st8.2.2.1, (0 : Int), st8.2.2.2.2) fun st9 => j7 st9)) else (j7 st5)))))))) else (Bnd (s2.1, s2.2.1, s2.2.2.1, (max (0 : Int) (s2.2.2.2.1 - (1 : Int))), s2.2.2.2.2) fun st10 => CMulW st10.2.2.2.2 (48271 : Int) ∧ (0 < (2147483647 : Int) ∧ ((Bnd (st10.1, st10.2.1, st10.2.2.1, st10.2.2.2.1, (((st10.2.2.2.2 * (48271 : Int)) + (12345 : Int)) % (2147483647 : Int))) fun st11 => CMulW st11.2.2.2.2 (40692 : Int) ∧ (0 < (2147483399 : Int) ∧ (0 < s1 ∧ ((Ist st11 ∧ k ((((st11.2.2.2.2 * (40692 : Int)) + (3791 : Int)) % (2147483399 : Int)) % s1)))))))))) fun j12 => if ((decide (u.2.2.2.1 = (0 : Int))) && (decide (u.2.1 < ((u.1).length : Int)))) = true then (∃ y13, atI u.1 u.2.1 = some y13 ∧ ((Bnd ((y13).natAbs : Int) fun cell_14 => (Bnd (u.1, (u.2.1 + (1 : Int)), u.2.2.1, u.2.2.2.1, u.2.2.2.2) fun st15 => (Bnd (st15.1, st15.2.1, st15.2.2.1, (4 : Int), st15.2.2.2.2) fun st16 => (Jn (fun s17 : ((List (Int)) × Int × Int × Int × Int) => j12 s17) fun j18 => if (decide ((1000000000000000000 : Int) ≤ cell_14)) = true then (Bnd (st16.1, st16.2.1, cell_14, st16.2.2.2.1, st16.2.2.2.2) fun st19 => (Bnd (st19.1, st19.2.1, st19.2.2.1, (60 : Int), st19.2.2.2.2) fun st20 => j18 st20)) else (CMulW st16.2.2.2.2 (48271 : Int) ∧ (0 < (2147483647 : Int) ∧ ((Bnd (st16.1, st16.2.1, st16.2.2.1, st16.2.2.2.1, ((((st16.2.2.2.2 * (48271 : Int)) + cell_14) + st16.2.1) % (2147483647 : Int))) fun st21 => j18 st21)))))))))) else (j12 u))) fun j22 => if (decide (y < (2 : Int))) = true then (Bnd (1 : Int) fun limit_23 => j22 limit_23) else (j22 y))
theorem pure_law_draw {y : Int} {u : tSt} {k : Int → Prop} (hI : Ist u) (h : w_law_draw y k) : w_law_draw_in y u k := by
  obtain ⟨hl, hk⟩ := h
  refine Jn_by (fun s1 => 1 ≤ s1 ∧ s1.natAbs.log2 < 9000 ∧ ∀ r, 0 ≤ r → r < s1 → k r) (fun s1 ⟨h1, h2, h3⟩ => ?_) (fun j hj => ?_)
  · refine Jn_by Ist (fun s2 hs => ?_) (fun j hj => ?_)
    · obtain ⟨xs, at_, wide, left, mix⟩ := s2
      obtain ⟨i1, i2, i4, i5⟩ := hs
      simp only at i1 i2 i4 i5
      split
      · rename_i hw
        have hw : (0 : Int) < wide := of_decide_eq_true hw
        refine ⟨by omega, ?_, ?_⟩
        · exact ⟨by omega, h2⟩
        · have d0 : 0 ≤ wide / s1 := Int.ediv_nonneg i2 (by omega)
          have r0 : 0 ≤ wide % s1 := Int.emod_nonneg _ (by omega)
          have r1 : wide % s1 < s1 := Int.emod_lt_of_pos _ (by omega)
          simp only [Bnd]
          refine Jn_by Ist (fun s6 hs6 => ⟨hs6, h3 _ r0 r1⟩) (fun j hj => ?_)
          split
          · exact hj _ ⟨i1, Int.le_refl _, i4, i5⟩
          · exact hj _ ⟨i1, d0, i4, i5⟩
      · have m1 : CMulW mix 48271 := cmul_of 31 16 (by omega) (by decide) (by decide)
        refine ⟨m1, by decide, ?_⟩
        have e0 : 0 ≤ (mix * 48271 + 12345) % 2147483647 := Int.emod_nonneg _ (by decide)
        have e1 : (mix * 48271 + 12345) % 2147483647 < 2147483647 := Int.emod_lt_of_pos _ (by decide)
        refine ⟨cmul_of 31 16 (by show ((mix * 48271 + 12345) % 2147483647).natAbs < _; omega) (by decide) (by decide), by decide, by omega, ⟨i1, i2, e0, e1⟩, h3 _ (Int.emod_nonneg _ (by omega)) (Int.emod_lt_of_pos _ (by omega))⟩
    · obtain ⟨xs, at_, wide, left, mix⟩ := u
      obtain ⟨i1, i2, i4, i5⟩ := hI
      simp only at i1 i2 i4 i5
      split
      · rename_i hc
        rw [Bool.and_eq_true, decide_eq_true_eq, decide_eq_true_eq] at hc
        obtain ⟨c1, c2⟩ := hc
        have c1 : left = 0 := c1
        have c2 : at_ < (xs.length : Int) := c2
        have hat : at_.toNat < xs.length := by omega
        refine ⟨xs[at_.toNat], ?_, ?_⟩
        · have e : at_ = ((at_.toNat : Nat) : Int) := by omega
          have q : atI xs ((at_.toNat : Nat) : Int) = some xs[at_.toNat] := atI_nat (by simp [hat])
          rw [← e] at q
          exact q
        · simp only [Bnd]
          refine Jn_by Ist (fun s17 hs => hj _ hs) (fun j18 hj18 => ?_)
          have cn : (0 : Int) ≤ ((xs[at_.toNat]).natAbs : Int) := by omega
          split
          · exact hj18 _ ⟨by show 0 ≤ at_ + 1; omega, cn, i4, i5⟩
          · refine ⟨cmul_of 31 16 (by show mix.natAbs < _; omega) (by decide) (by decide), by decide, ?_⟩
            exact hj18 _ ⟨by show 0 ≤ at_ + 1; omega, i2, Int.emod_nonneg _ (by decide), Int.emod_lt_of_pos _ (by decide)⟩
      · exact hj _ ⟨i1, i2, i4, i5⟩
  · split
    · rename_i hy
      have hy : y < 2 := of_decide_eq_true hy
      exact hj 1 ⟨Int.le_refl _, by decide, fun r h0 h1 => hk r h0 (by omega)⟩
    · rename_i hy
      have hy : ¬ y < 2 := fun e => hy (decide_eq_true e)
      exact hj y ⟨by omega, hl, fun r h0 h1 => hk r h0 (by omega)⟩

theorem ok_law_draw (T : Txt K mg) : Cle P w K mg base "_law_draw" 1 (spS (zmR Rst Ist) (Row.one tyI) tyI (w_law_draw)) :=
  let ⟨_, F⟩ := T.f_law_draw
  cle_SM (Γ0 := fun st u y => [.mx st (Row.cons (tyL tyI) (Row.cons tyI (Row.cons tyI (Row.cons tyI (Row.one tyI))))) u, .fz tyI y, .no, .no]) F T.g_law_draw sc_law_draw (fun _ _ _ _ _ _ us hl => match us, hl with | [_, _], _ => rfl) rfl (Nat.le_of_ble_eq_true rfl) rsl_one (fun _ _ _ => rfl) (fun cdv A outer s H E hr st u y k hI => ⟨w_law_draw_in y u k, pure_law_draw hI, (y_if (Γ := [.mx st (Row.cons (tyL tyI) (Row.cons tyI (Row.cons tyI (Row.cons tyI (Row.one tyI))))) u, .fz tyI y, .no, .no]) (fun s1 : Int => [.mx st (Row.cons (tyL tyI) (Row.cons tyI (Row.cons tyI (Row.cons tyI (Row.one tyI))))) u, .fz tyI s1, .no, .no]) (xt_lt (xe_var 1 rfl rfl (.inl rfl)) xe_int) id (fun j22 => by exact (y_set (Γ := [.mx st (Row.cons (tyL tyI) (Row.cons tyI (Row.cons tyI (Row.cons tyI (Row.one tyI))))) u, .fz tyI y, .no, .no]) 1 sc_law_draw.nd rfl (.inl rfl) xe_int id (fun limit_23 => (y_join (ΓJ := fun s1 : Int => [.mx st (Row.cons (tyL tyI) (Row.cons tyI (Row.cons tyI (Row.cons tyI (Row.one tyI))))) u, .fz tyI s1, .no, .no]) limit_23 (Cv.refl _) rfl id)))) (fun j22 => by exact (y_join (ΓJ := fun s1 : Int => [.mx st (Row.cons (tyL tyI) (Row.cons tyI (Row.cons tyI (Row.cons tyI (Row.one tyI))))) u, .fz tyI s1, .no, .no]) y (Cv.refl _) rfl id)) (fun s1 => by exact (y_if (Γ := [.mx st (Row.cons (tyL tyI) (Row.cons tyI (Row.cons tyI (Row.cons tyI (Row.one tyI))))) u, .fz tyI s1, .no, .no]) (fun s2 : ((List (Int)) × Int × Int × Int × Int) => [.mx st (Row.cons (tyL tyI) (Row.cons tyI (Row.cons tyI (Row.cons tyI (Row.one tyI))))) s2, .fz tyI s1, .no, .no]) (xt_w (xw_andp (xt_eq (xe_itMx 0 3 rfl rfl (.inl rfl) (ra_succ (ra_succ (ra_succ ra_zero))) xe_int (fun _ _ => rfl)) xe_int) (xw_and1 (xt_lt (xe_itMx 0 1 rfl rfl (.inl rfl) (ra_succ ra_zero) xe_int (fun _ _ => rfl)) (xe_len T.l_len (xl_of (xe_itMx 0 0 rfl rfl (.inl rfl) ra_zero xe_int (fun _ _ => rfl)))))) rfl)) id (fun j12 => by exact (y_set (Γ := [.mx st (Row.cons (tyL tyI) (Row.cons tyI (Row.cons tyI (Row.cons tyI (Row.one tyI))))) u, .fz tyI s1, .no, .no]) 2 sc_law_draw.nd rfl (.inl rfl) (xe_abs T.l_abs (xe_int1 T.l_int (xe_ix (xl_of (xe_itMx 0 0 rfl rfl (.inl rfl) ra_zero xe_int (fun _ _ => rfl))) (xe_itMx 0 1 rfl rfl (.inl rfl) (ra_succ ra_zero) xe_int (fun _ _ => rfl)) (fun _ _ => rfl)))) id (fun cell_14 => (y_setMx (Γ := [.mx st (Row.cons (tyL tyI) (Row.cons tyI (Row.cons tyI (Row.cons tyI (Row.one tyI))))) u, .fz tyI s1, .fz tyI cell_14, .no]) 0 1 rfl rfl (.inl rfl) (rp_succ rp_zero) (xe_add (xe_itMx 0 1 rfl rfl (.inl rfl) (ra_succ ra_zero) xe_int (fun _ _ => rfl)) xe_int) xe_int id (fun st15 => (y_setMx (Γ := [.mx st (Row.cons (tyL tyI) (Row.cons tyI (Row.cons tyI (Row.cons tyI (Row.one tyI))))) st15, .fz tyI s1, .fz tyI cell_14, .no]) 0 3 rfl rfl (.inl rfl) (rp_succ (rp_succ (rp_succ rp_zero))) xe_int xe_int id (fun st16 => (y_if (Γ := [.mx st (Row.cons (tyL tyI) (Row.cons tyI (Row.cons tyI (Row.cons tyI (Row.one tyI))))) st16, .fz tyI s1, .fz tyI cell_14, .no]) (fun s17 : ((List (Int)) × Int × Int × Int × Int) => [.mx st (Row.cons (tyL tyI) (Row.cons tyI (Row.cons tyI (Row.cons tyI (Row.one tyI))))) s17, .fz tyI s1, .fz tyI cell_14, .no]) (xt_ge (xe_var 2 rfl rfl (.inl rfl)) (xe_powc (n := 1000000000000000000) (by decide +kernel) xe_int xe_int)) id (fun j18 => by exact (y_setMx (Γ := [.mx st (Row.cons (tyL tyI) (Row.cons tyI (Row.cons tyI (Row.cons tyI (Row.one tyI))))) st16, .fz tyI s1, .fz tyI cell_14, .no]) 0 2 rfl rfl (.inl rfl) (rp_succ (rp_succ rp_zero)) (xe_var 2 rfl rfl (.inl rfl)) xe_int id (fun st19 => (y_setMx (Γ := [.mx st (Row.cons (tyL tyI) (Row.cons tyI (Row.cons tyI (Row.cons tyI (Row.one tyI))))) st19, .fz tyI s1, .fz tyI cell_14, .no]) 0 3 rfl rfl (.inl rfl) (rp_succ (rp_succ (rp_succ rp_zero))) xe_int xe_int id (fun st20 => (y_join (ΓJ := fun s17 : ((List (Int)) × Int × Int × Int × Int) => [.mx st (Row.cons (tyL tyI) (Row.cons tyI (Row.cons tyI (Row.cons tyI (Row.one tyI))))) s17, .fz tyI s1, .fz tyI cell_14, .no]) st20 (Cv.refl _) rfl id)))))) (fun j18 => by exact (y_setMx (Γ := [.mx st (Row.cons (tyL tyI) (Row.cons tyI (Row.cons tyI (Row.cons tyI (Row.one tyI))))) st16, .fz tyI s1, .fz tyI cell_14, .no]) 0 4 rfl rfl (.inl rfl) (rp_succ (rp_succ (rp_succ (rp_succ rp_one)))) (xe_mod (xe_int1 T.l_int (xe_add (xe_add (xe_mul (xe_itMx 0 4 rfl rfl (.inl rfl) (ra_succ (ra_succ (ra_succ (ra_succ ra_one)))) xe_int (fun _ _ => rfl)) xe_int) (xe_var 2 rfl rfl (.inl rfl))) (xe_itMx 0 1 rfl rfl (.inl rfl) (ra_succ ra_zero) xe_int (fun _ _ => rfl)))) xe_int) xe_int id (fun st21 => (y_join (ΓJ := fun s17 : ((List (Int)) × Int × Int × Int × Int) => [.mx st (Row.cons (tyL tyI) (Row.cons tyI (Row.cons tyI (Row.cons tyI (Row.one tyI))))) s17, .fz tyI s1, .fz tyI cell_14, .no]) st21 (Cv.refl _) rfl id)))) (fun s17 => by exact (y_join (ΓJ := fun s2 : ((List (Int)) × Int × Int × Int × Int) => [.mx st (Row.cons (tyL tyI) (Row.cons tyI (Row.cons tyI (Row.cons tyI (Row.one tyI))))) s2, .fz tyI s1, .no, .no]) s17 (Wk.cv (.same (.same (.no (.same .nil))))) rfl id)))))))))) (fun j12 => by exact (y_join (ΓJ := fun s2 : ((List (Int)) × Int × Int × Int × Int) => [.mx st (Row.cons (tyL tyI) (Row.cons tyI (Row.cons tyI (Row.cons tyI (Row.one tyI))))) s2, .fz tyI s1, .no, .no]) u (Cv.refl _) rfl id)) (fun s2 => by exact (y_if1 (Γ := [.mx st (Row.cons (tyL tyI) (Row.cons tyI (Row.cons tyI (Row.cons tyI (Row.one tyI))))) s2, .fz tyI s1, .no, .no]) (xt_gt (xe_itMx 0 2 rfl rfl (.inl rfl) (ra_succ (ra_succ ra_zero)) xe_int (fun _ _ => rfl)) xe_int) id (by exact (y_set (Γ := [.mx st (Row.cons (tyL tyI) (Row.cons tyI (Row.cons tyI (Row.cons tyI (Row.one tyI))))) s2, .fz tyI s1, .no, .no]) 3 sc_law_draw.nd rfl (.inl rfl) (xe_mod (xe_int1 T.l_int (xe_itMx 0 2 rfl rfl (.inl rfl) (ra_succ (ra_succ ra_zero)) xe_int (fun _ _ => rfl))) (xe_var 1 rfl rfl (.inl rfl))) id (fun got_3 => (y_setMx (Γ := [.mx st (Row.cons (tyL tyI) (Row.cons tyI (Row.cons tyI (Row.cons tyI (Row.one tyI))))) s2, .fz tyI s1, .no, .fz tyI got_3]) 0 2 rfl rfl (.inl rfl) (rp_succ (rp_succ rp_zero)) (xe_fdiv (xe_itMx 0 2 rfl rfl (.inl rfl) (ra_succ (ra_succ ra_zero)) xe_int (fun _ _ => rfl)) (xe_var 1 rfl rfl (.inl rfl))) xe_int id (fun st4 => (y_setMx (Γ := [.mx st (Row.cons (tyL tyI) (Row.cons tyI (Row.cons tyI (Row.cons tyI (Row.one tyI))))) st4, .fz tyI s1, .no, .fz tyI got_3]) 0 3 rfl rfl (.inl rfl) (rp_succ (rp_succ (rp_succ rp_zero))) (xe_sub (xe_itMx 0 3 rfl rfl (.inl rfl) (ra_succ (ra_succ (ra_succ ra_zero))) xe_int (fun _ _ => rfl)) xe_int) xe_int id (fun st5 => (y_if (Γ := [.mx st (Row.cons (tyL tyI) (Row.cons tyI (Row.cons tyI (Row.cons tyI (Row.one tyI))))) st5, .fz tyI s1, .no, .fz tyI got_3]) (fun s6 : ((List (Int)) × Int × Int × Int × Int) => [.mx st (Row.cons (tyL tyI) (Row.cons tyI (Row.cons tyI (Row.cons tyI (Row.one tyI))))) s6, .fz tyI s1, .no, .fz tyI got_3]) (xt_w (xw_orp (xt_eq (xe_itMx 0 2 rfl rfl (.inl rfl) (ra_succ (ra_succ ra_zero)) xe_int (fun _ _ => rfl)) xe_int) (xw_or1 (xt_eq (xe_itMx 0 3 rfl rfl (.inl rfl) (ra_succ (ra_succ (ra_succ ra_zero))) xe_int (fun _ _ => rfl)) xe_int)) rfl)) id (fun j7 => by exact (y_setMx (Γ := [.mx st (Row.cons (tyL tyI) (Row.cons tyI (Row.cons tyI (Row.cons tyI (Row.one tyI))))) st5, .fz tyI s1, .no, .fz tyI got_3]) 0 2 rfl rfl (.inl rfl) (rp_succ (rp_succ rp_zero)) xe_int xe_int id (fun st8 => (y_setMx (Γ := [.mx st (Row.cons (tyL tyI) (Row.cons tyI (Row.cons tyI (Row.cons tyI (Row.one tyI))))) st8, .fz tyI s1, .no, .fz tyI got_3]) 0 3 rfl rfl (.inl rfl) (rp_succ (rp_succ (rp_succ rp_zero))) xe_int xe_int id (fun st9 => (y_join (ΓJ := fun s6 : ((List (Int)) × Int × Int × Int × Int) => [.mx st (Row.cons (tyL tyI) (Row.cons tyI (Row.cons tyI (Row.cons tyI (Row.one tyI))))) s6, .fz tyI s1, .no, .fz tyI got_3]) st9 (Cv.refl _) rfl id)))))) (fun j7 => by exact (y_join (ΓJ := fun s6 : ((List (Int)) × Int × Int × Int × Int) => [.mx st (Row.cons (tyL tyI) (Row.cons tyI (Row.cons tyI (Row.cons tyI (Row.one tyI))))) s6, .fz tyI s1, .no, .fz tyI got_3]) st5 (Cv.refl _) rfl id)) (fun s6 => by exact (y_retM (Γ := [.mx st (Row.cons (tyL tyI) (Row.cons tyI (Row.cons tyI (Row.cons tyI (Row.one tyI))))) s6, .fz tyI s1, .no, .fz tyI got_3]) (u' := s6) rfl rfl (xe_var 3 rfl rfl (.inl rfl)) id)))))))))) (by exact (y_setMx (Γ := [.mx st (Row.cons (tyL tyI) (Row.cons tyI (Row.cons tyI (Row.cons tyI (Row.one tyI))))) s2, .fz tyI s1, .no, .no]) 0 3 rfl rfl (.inl rfl) (rp_succ (rp_succ (rp_succ rp_zero))) (xe_max2 rfl T.l_max xe_int (xe_sub (xe_itMx 0 3 rfl rfl (.inl rfl) (ra_succ (ra_succ (ra_succ ra_zero))) xe_int (fun _ _ => rfl)) xe_int)) xe_int id (fun st10 => (y_setMx (Γ := [.mx st (Row.cons (tyL tyI) (Row.cons tyI (Row.cons tyI (Row.cons tyI (Row.one tyI))))) st10, .fz tyI s1, .no, .no]) 0 4 rfl rfl (.inl rfl) (rp_succ (rp_succ (rp_succ (rp_succ rp_one)))) (xe_mod (xe_int1 T.l_int (xe_add (xe_mul (xe_itMx 0 4 rfl rfl (.inl rfl) (ra_succ (ra_succ (ra_succ (ra_succ ra_one)))) xe_int (fun _ _ => rfl)) xe_int) xe_int)) xe_int) xe_int id (fun st11 => (y_retM (Γ := [.mx st (Row.cons (tyL tyI) (Row.cons tyI (Row.cons tyI (Row.cons tyI (Row.one tyI))))) st11, .fz tyI s1, .no, .no]) (u' := st11) rfl rfl (xe_mod (xe_int1 T.l_int (xe_mod (xe_int1 T.l_int (xe_add (xe_mul (xe_itMx 0 4 rfl rfl (.inl rfl) (ra_succ (ra_succ (ra_succ (ra_succ ra_one)))) xe_int (fun _ _ => rfl)) xe_int) xe_int)) xe_int)) (xe_var 1 rfl rfl (.inl rfl))) id)))))))))))⟩)
/-! _law_changed -/
theorem sc_law_changed : FnScope ["state", "parts", "text", "made", "kind", "at", "place"] ["state", "parts", "text"] (defScope s_law_changed) := ⟨rfl, rfl, rfl, by decide +kernel, rfl, by decide +kernel, by decide +kernel⟩
def w_law_changed (y : (List (Int × Str)) × Str) (k : List (Int × Str) → Prop) : Prop :=
  (Bnd y.1 fun made_1 => w_law_draw (7 : Int) (fun r2 => (Bnd r2 fun kind_3 => w_law_draw ((made_1).length : Int) (fun r4 => (Bnd r4 fun at_5 => w_law_draw ((made_1).length : Int) (fun r6 => (Bnd r6 fun place_7 => (Jn (fun s8 : (List (Int × Str)) => k s8) fun j9 => if (decide (kind_3 = (0 : Int))) = true then (∃ y10, atI made_1 at_5 = some y10 ∧ (∃ y11, atI made_1 at_5 = some y11 ∧ (∃ m13, ixN (made_1).length at_5 = some m13 ∧ ((Bnd ((made_1).set m13 ((y10.1 + (1 : Int)), y11.2)) fun made_12 => j9 made_12))))) else (Jn (fun s14 : (List (Int × Str)) => j9 s14) fun j15 => if (decide (kind_3 = (1 : Int))) = true then (∃ y16, atI made_1 at_5 = some y16 ∧ (∃ y17, atI made_1 place_7 = some y17 ∧ (∃ m19, ixN (made_1).length at_5 = some m19 ∧ ((Bnd ((made_1).set m19 (y16.1, y17.2)) fun made_18 => j15 made_18))))) else (Jn (fun s20 : (List (Int × Str)) => j15 s20) fun j21 => if ((decide (kind_3 = (2 : Int))) && (decide ((1 : Int) < ((made_1).length : Int)))) = true then (((cutA made_1 none (some at_5))).length + ((cutA made_1 (some (at_5 + (1 : Int))) none)).length ≤ sizeLine ∧ ((Bnd ((cutA made_1 none (some at_5)) ++ (cutA made_1 (some (at_5 + (1 : Int))) none)) fun made_22 => j21 made_22))) else (Jn (fun s23 : (List (Int × Str)) => j21 s23) fun j24 => if (decide (kind_3 = (3 : Int))) = true then (((cutA made_1 none (some at_5))).length + ([((1 : Int), y.2)]).length ≤ sizeLine ∧ ((((cutA made_1 none (some at_5)) ++ [((1 : Int), y.2)])).length + ((cutA made_1 (some at_5) none)).length ≤ sizeLine ∧ ((Bnd (((cutA made_1 none (some at_5)) ++ [((1 : Int), y.2)]) ++ (cutA made_1 (some at_5) none)) fun made_25 => j24 made_25)))) else (Jn (fun s26 : (List (Int × Str)) => j24 s26) fun j27 => if (decide (kind_3 = (4 : Int))) = true then (∃ y28, atI made_1 at_5 = some y28 ∧ (∃ y29, atI made_1 at_5 = some y29 ∧ (∃ m31, ixN (made_1).length at_5 = some m31 ∧ ((Bnd ((made_1).set m31 ((max (1 : Int) (y28.1 - (1 : Int))), y29.2)) fun made_30 => ∃ y32, atI made_30 place_7 = some y32 ∧ (∃ y33, atI made_30 place_7 = some y33 ∧ (∃ m35, ixN (made_30).length place_7 = some m35 ∧ ((Bnd ((made_30).set m35 ((y32.1 + (1 : Int)), y33.2)) fun made_34 => j27 made_34))))))))) else (j27 made_1)))))))))))))
theorem fo_law_changed {fd : FuncData} (T : Txt K mg) (F : FunD K "_law_changed" "_law_changed" (defArgs s_law_changed) (defBody s_law_changed) (defScope s_law_changed) [] [] (He.fAd K ("_law_changed", none)) fd) : FnOk P w K mg base CX0 2 (He.fAd K ("_law_changed", none)) fd ["state", "parts", "text"] (spS (zmR Rst Ist) (Row.cons (tyL (tyT (Row.cons tyI (Row.one tyS)))) (Row.one tyS)) (tyL (tyT (Row.cons tyI (Row.one tyS)))) (w_law_changed)) :=
  fn_S (Γ0 := fun y => [.st, .fz (tyL (tyT (Row.cons tyI (Row.one tyS)))) y.1, .fz tyS y.2, .no, .no, .no, .no]) (kn := fun _ => False) F sc_law_changed rfl (Nat.le_of_ble_eq_true rfl) (rsl_cons rsl_one) (fun _ => rfl) (fun _ _ h => h.elim) (fun cdv A outer s H E hr st y k => (y_setF (Γ := [.st, .fz (tyL (tyT (Row.cons tyI (Row.one tyS)))) y.1, .fz tyS y.2, .no, .no, .no, .no]) 3 sc_law_changed.nd rfl (.inl rfl) (xf_listL T.l_list (xl_of (xe_var 1 rfl rfl (.inl rfl)))) id (fun made_1 => (y_set (Γ := [.st, .fz (tyL (tyT (Row.cons tyI (Row.one tyS)))) y.1, .fz tyS y.2, .ml (tyT (Row.cons tyI (Row.one tyS))) made_1, .no, .no, .no]) 4 sc_law_changed.nd rfl (.inl rfl) (xe_callS 0 rfl rfl (.inl rfl) (ok_law_draw T) (hr.mono (by decide)) (xa_one xe_int)) id (fun kind_3 => (y_set (Γ := [.st, .fz (tyL (tyT (Row.cons tyI (Row.one tyS)))) y.1, .fz tyS y.2, .ml (tyT (Row.cons tyI (Row.one tyS))) made_1, .fz tyI kind_3, .no, .no]) 5 sc_law_changed.nd rfl (.inl rfl) (xe_callS 0 rfl rfl (.inl rfl) (ok_law_draw T) (hr.mono (by decide)) (xa_one (xe_len T.l_len (xl_own 3 rfl rfl (.inl rfl))))) id (fun at_5 => (y_set (Γ := [.st, .fz (tyL (tyT (Row.cons tyI (Row.one tyS)))) y.1, .fz tyS y.2, .ml (tyT (Row.cons tyI (Row.one tyS))) made_1, .fz tyI kind_3, .fz tyI at_5, .no]) 6 sc_law_changed.nd rfl (.inl rfl) (xe_callS 0 rfl rfl (.inl rfl) (ok_law_draw T) (hr.mono (by decide)) (xa_one (xe_len T.l_len (xl_own 3 rfl rfl (.inl rfl))))) id (fun place_7 => (y_if (Γ := [.st, .fz (tyL (tyT (Row.cons tyI (Row.one tyS)))) y.1, .fz tyS y.2, .ml (tyT (Row.cons tyI (Row.one tyS))) made_1, .fz tyI kind_3, .fz tyI at_5, .fz tyI place_7]) (fun s8 : (List (Int × Str)) => [.st, .fz (tyL (tyT (Row.cons tyI (Row.one tyS)))) y.1, .fz tyS y.2, .ml (tyT (Row.cons tyI (Row.one tyS))) s8, .fz tyI kind_3, .fz tyI at_5, .fz tyI place_7]) (xt_eq (xe_var 4 rfl rfl (.inl rfl)) xe_int) id (fun j9 => by exact (y_setL (Γ := [.st, .fz (tyL (tyT (Row.cons tyI (Row.one tyS)))) y.1, .fz tyS y.2, .ml (tyT (Row.cons tyI (Row.one tyS))) made_1, .fz tyI kind_3, .fz tyI at_5, .fz tyI place_7]) 3 rfl rfl (.inl rfl) (xe_tup (xa_cons (xe_add (xe_itT (xe_ix (xl_own 3 rfl rfl (.inl rfl)) (xe_var 5 rfl rfl (.inl rfl)) (fun _ _ => rfl)) ra_zero xe_int (fun _ _ => rfl)) xe_int) (xa_one (xe_itT (xe_ix (xl_own 3 rfl rfl (.inl rfl)) (xe_var 5 rfl rfl (.inl rfl)) (fun _ _ => rfl)) (ra_succ ra_one) xe_int (fun _ _ => rfl))))) (xe_var 5 rfl rfl (.inl rfl)) id (fun made_12 => (y_join (ΓJ := fun s8 : (List (Int × Str)) => [.st, .fz (tyL (tyT (Row.cons tyI (Row.one tyS)))) y.1, .fz tyS y.2, .ml (tyT (Row.cons tyI (Row.one tyS))) s8, .fz tyI kind_3, .fz tyI at_5, .fz tyI place_7]) made_12 (Cv.refl _) rfl id)))) (fun j9 => by exact (y_if (Γ := [.st, .fz (tyL (tyT (Row.cons tyI (Row.one tyS)))) y.1, .fz tyS y.2, .ml (tyT (Row.cons tyI (Row.one tyS))) made_1, .fz tyI kind_3, .fz tyI at_5, .fz tyI place_7]) (fun s14 : (List (Int × Str)) => [.st, .fz (tyL (tyT (Row.cons tyI (Row.one tyS)))) y.1, .fz tyS y.2, .ml (tyT (Row.cons tyI (Row.one tyS))) s14, .fz tyI kind_3, .fz tyI at_5, .fz tyI place_7]) (xt_eq (xe_var 4 rfl rfl (.inl rfl)) xe_int) id (fun j15 => by exact (y_setL (Γ := [.st, .fz (tyL (tyT (Row.cons tyI (Row.one tyS)))) y.1, .fz tyS y.2, .ml (tyT (Row.cons tyI (Row.one tyS))) made_1, .fz tyI kind_3, .fz tyI at_5, .fz tyI place_7]) 3 rfl rfl (.inl rfl) (xe_tup (xa_cons (xe_itT (xe_ix (xl_own 3 rfl rfl (.inl rfl)) (xe_var 5 rfl rfl (.inl rfl)) (fun _ _ => rfl)) ra_zero xe_int (fun _ _ => rfl)) (xa_one (xe_itT (xe_ix (xl_own 3 rfl rfl (.inl rfl)) (xe_var 6 rfl rfl (.inl rfl)) (fun _ _ => rfl)) (ra_succ ra_one) xe_int (fun _ _ => rfl))))) (xe_var 5 rfl rfl (.inl rfl)) id (fun made_18 => (y_join (ΓJ := fun s14 : (List (Int × Str)) => [.st, .fz (tyL (tyT (Row.cons tyI (Row.one tyS)))) y.1, .fz tyS y.2, .ml (tyT (Row.cons tyI (Row.one tyS))) s14, .fz tyI kind_3, .fz tyI at_5, .fz tyI place_7]) made_18 (Cv.refl _) rfl id)))) (fun j15 => by exact (y_if (Γ := [.st, .fz (tyL (tyT (Row.cons tyI (Row.one tyS)))) y.1, .fz tyS y.2, .ml (tyT (Row.cons tyI (Row.one tyS))) made_1, .fz tyI kind_3, .fz tyI at_5, .fz tyI place_7]) (fun s20 : (List (Int × Str)) => [.st, .fz (tyL (tyT (Row.cons tyI (Row.one tyS)))) y.1, .fz tyS y.2, .ml (tyT (Row.cons tyI (Row.one tyS))) s20, .fz tyI kind_3, .fz tyI at_5, .fz tyI place_7]) (xt_w (xw_andp (xt_eq (xe_var 4 rfl rfl (.inl rfl)) xe_int) (xw_and1 (xt_gt (xe_len T.l_len (xl_own 3 rfl rfl (.inl rfl))) xe_int)) rfl)) id (fun j21 => by exact (y_setF (Γ := [.st, .fz (tyL (tyT (Row.cons tyI (Row.one tyS)))) y.1, .fz tyS y.2, .ml (tyT (Row.cons tyI (Row.one tyS))) made_1, .fz tyI kind_3, .fz tyI at_5, .fz tyI place_7]) 3 sc_law_changed.nd rfl (.inl rfl) (xf_cat (xl_of (xe_f (xf_slL (xl_own 3 rfl rfl (.inl rfl)) xo_none (xo_some (xe_var 5 rfl rfl (.inl rfl)))))) (xl_of (xe_f (xf_slL (xl_own 3 rfl rfl (.inl rfl)) (xo_some (xe_add (xe_var 5 rfl rfl (.inl rfl)) xe_int)) xo_none)))) id (fun made_22 => (y_join (ΓJ := fun s20 : (List (Int × Str)) => [.st, .fz (tyL (tyT (Row.cons tyI (Row.one tyS)))) y.1, .fz tyS y.2, .ml (tyT (Row.cons tyI (Row.one tyS))) s20, .fz tyI kind_3, .fz tyI at_5, .fz tyI place_7]) made_22 (Cv.refl _) rfl id)))) (fun j21 => by exact (y_if (Γ := [.st, .fz (tyL (tyT (Row.cons tyI (Row.one tyS)))) y.1, .fz tyS y.2, .ml (tyT (Row.cons tyI (Row.one tyS))) made_1, .fz tyI kind_3, .fz tyI at_5, .fz tyI place_7]) (fun s23 : (List (Int × Str)) => [.st, .fz (tyL (tyT (Row.cons tyI (Row.one tyS)))) y.1, .fz tyS y.2, .ml (tyT (Row.cons tyI (Row.one tyS))) s23, .fz tyI kind_3, .fz tyI at_5, .fz tyI place_7]) (xt_eq (xe_var 4 rfl rfl (.inl rfl)) xe_int) id (fun j24 => by exact (y_setF (Γ := [.st, .fz (tyL (tyT (Row.cons tyI (Row.one tyS)))) y.1, .fz tyS y.2, .ml (tyT (Row.cons tyI (Row.one tyS))) made_1, .fz tyI kind_3, .fz tyI at_5, .fz tyI place_7]) 3 sc_law_changed.nd rfl (.inl rfl) (xf_cat (xl_of (xe_f (xf_cat (xl_of (xe_f (xf_slL (xl_own 3 rfl rfl (.inl rfl)) xo_none (xo_some (xe_var 5 rfl rfl (.inl rfl)))))) (xl_of (xe_f (xf_lst (A := (tyT (Row.cons tyI (Row.one tyS)))) (xa_conss (xe_tup (xa_cons xe_int (xa_one (xe_var 2 rfl rfl (.inl rfl))))) (xa_nils (A := (tyT (Row.cons tyI (Row.one tyS)))))))))))) (xl_of (xe_f (xf_slL (xl_own 3 rfl rfl (.inl rfl)) (xo_some (xe_var 5 rfl rfl (.inl rfl))) xo_none)))) id (fun made_25 => (y_join (ΓJ := fun s23 : (List (Int × Str)) => [.st, .fz (tyL (tyT (Row.cons tyI (Row.one tyS)))) y.1, .fz tyS y.2, .ml (tyT (Row.cons tyI (Row.one tyS))) s23, .fz tyI kind_3, .fz tyI at_5, .fz tyI place_7]) made_25 (Cv.refl _) rfl id)))) (fun j24 => by exact (y_if (Γ := [.st, .fz (tyL (tyT (Row.cons tyI (Row.one tyS)))) y.1, .fz tyS y.2, .ml (tyT (Row.cons tyI (Row.one tyS))) made_1, .fz tyI kind_3, .fz tyI at_5, .fz tyI place_7]) (fun s26 : (List (Int × Str)) => [.st, .fz (tyL (tyT (Row.cons tyI (Row.one tyS)))) y.1, .fz tyS y.2, .ml (tyT (Row.cons tyI (Row.one tyS))) s26, .fz tyI kind_3, .fz tyI at_5, .fz tyI place_7]) (xt_eq (xe_var 4 rfl rfl (.inl rfl)) xe_int) id (fun j27 => by exact (y_setL (Γ := [.st, .fz (tyL (tyT (Row.cons tyI (Row.one tyS)))) y.1, .fz tyS y.2, .ml (tyT (Row.cons tyI (Row.one tyS))) made_1, .fz tyI kind_3, .fz tyI at_5, .fz tyI place_7]) 3 rfl rfl (.inl rfl) (xe_tup (xa_cons (xe_max2 rfl T.l_max xe_int (xe_sub (xe_itT (xe_ix (xl_own 3 rfl rfl (.inl rfl)) (xe_var 5 rfl rfl (.inl rfl)) (fun _ _ => rfl)) ra_zero xe_int (fun _ _ => rfl)) xe_int)) (xa_one (xe_itT (xe_ix (xl_own 3 rfl rfl (.inl rfl)) (xe_var 5 rfl rfl (.inl rfl)) (fun _ _ => rfl)) (ra_succ ra_one) xe_int (fun _ _ => rfl))))) (xe_var 5 rfl rfl (.inl rfl)) id (fun made_30 => (y_setL (Γ := [.st, .fz (tyL (tyT (Row.cons tyI (Row.one tyS)))) y.1, .fz tyS y.2, .ml (tyT (Row.cons tyI (Row.one tyS))) made_30, .fz tyI kind_3, .fz tyI at_5, .fz tyI place_7]) 3 rfl rfl (.inl rfl) (xe_tup (xa_cons (xe_add (xe_itT (xe_ix (xl_own 3 rfl rfl (.inl rfl)) (xe_var 6 rfl rfl (.inl rfl)) (fun _ _ => rfl)) ra_zero xe_int (fun _ _ => rfl)) xe_int) (xa_one (xe_itT (xe_ix (xl_own 3 rfl rfl (.inl rfl)) (xe_var 6 rfl rfl (.inl rfl)) (fun _ _ => rfl)) (ra_succ ra_one) xe_int (fun _ _ => rfl))))) (xe_var 6 rfl rfl (.inl rfl)) id (fun made_34 => (y_join (ΓJ := fun s26 : (List (Int × Str)) => [.st, .fz (tyL (tyT (Row.cons tyI (Row.one tyS)))) y.1, .fz tyS y.2, .ml (tyT (Row.cons tyI (Row.one tyS))) s26, .fz tyI kind_3, .fz tyI at_5, .fz tyI place_7]) made_34 (Cv.refl _) rfl id)))))) (fun j27 => by exact (y_join (ΓJ := fun s26 : (List (Int × Str)) => [.st, .fz (tyL (tyT (Row.cons tyI (Row.one tyS)))) y.1, .fz tyS y.2, .ml (tyT (Row.cons tyI (Row.one tyS))) s26, .fz tyI kind_3, .fz tyI at_5, .fz tyI place_7]) made_1 (Cv.refl _) rfl id)) (fun s26 => by exact (y_join (ΓJ := fun s23 : (List (Int × Str)) => [.st, .fz (tyL (tyT (Row.cons tyI (Row.one tyS)))) y.1, .fz tyS y.2, .ml (tyT (Row.cons tyI (Row.one tyS))) s23, .fz tyI kind_3, .fz tyI at_5, .fz tyI place_7]) s26 (Cv.refl _) rfl id)))) (fun s23 => by exact (y_join (ΓJ := fun s20 : (List (Int × Str)) => [.st, .fz (tyL (tyT (Row.cons tyI (Row.one tyS)))) y.1, .fz tyS y.2, .ml (tyT (Row.cons tyI (Row.one tyS))) s20, .fz tyI kind_3, .fz tyI at_5, .fz tyI place_7]) s23 (Cv.refl _) rfl id)))) (fun s20 => by exact (y_join (ΓJ := fun s14 : (List (Int × Str)) => [.st, .fz (tyL (tyT (Row.cons tyI (Row.one tyS)))) y.1, .fz tyS y.2, .ml (tyT (Row.cons tyI (Row.one tyS))) s14, .fz tyI kind_3, .fz tyI at_5, .fz tyI place_7]) s20 (Cv.refl _) rfl id)))) (fun s14 => by exact (y_join (ΓJ := fun s8 : (List (Int × Str)) => [.st, .fz (tyL (tyT (Row.cons tyI (Row.one tyS)))) y.1, .fz tyS y.2, .ml (tyT (Row.cons tyI (Row.one tyS))) s8, .fz tyI kind_3, .fz tyI at_5, .fz tyI place_7]) s14 (Cv.refl _) rfl id)))) (fun s8 => by exact (xb_cv (cv_ml 3 rfl) (y_ret (Γ := [.st, .fz (tyL (tyT (Row.cons tyI (Row.one tyS)))) y.1, .fz tyS y.2, .fz (tyL (tyT (Row.cons tyI (Row.one tyS)))) s8, .fz tyI kind_3, .fz tyI at_5, .fz tyI place_7]) (xe_var 3 rfl rfl (.inl rfl)) id)))))))))))))
theorem ok_law_changed (T : Txt K mg) : Cle P w K mg base "_law_changed" 2 (spS (zmR Rst Ist) (Row.cons (tyL (tyT (Row.cons tyI (Row.one tyS)))) (Row.one tyS)) (tyL (tyT (Row.cons tyI (Row.one tyS)))) (w_law_changed)) :=
  let ⟨_, F⟩ := T.f_law_changed
  ⟨_, _, _, fo_law_changed T F, T.g_law_changed, F.kp, F.bindsN (fun _ _ _ _ _ _ us hl => match us, hl with | [_, _, _], _ => rfl)⟩
/-! _law_is_at -/
theorem sc_law_is_at : FnScope ["got", "due"] ["got", "due"] (defScope s_law_is_at) := ⟨rfl, rfl, rfl, by decide +kernel, rfl, by decide +kernel, by decide +kernel⟩
def w_law_is_at (y : (Option (Str)) × (Option (Str))) (k : Bool → Prop) : Prop :=
  if ((y.2).isNone) = true then (k ((y.1).isNone)) else (k ((y.1).isSome && (decide (y.1 = y.2))))
theorem fo_law_is_at {fd : FuncData} (T : Txt K mg) (F : FunD K "_law_is_at" "_law_is_at" (defArgs s_law_is_at) (defBody s_law_is_at) (defScope s_law_is_at) [] [] (He.fAd K ("_law_is_at", none)) fd) : FnOk P w K mg base CX0 1 (He.fAd K ("_law_is_at", none)) fd ["got", "due"] (spP (Row.cons (tyN tyS) (Row.one (tyN tyS))) tyB (w_law_is_at)) :=
  fn_P (Γ0 := fun y => [.fz (tyN tyS) y.1, .fz (tyN tyS) y.2]) (kn := fun _ => False) F sc_law_is_at rfl (Nat.le_of_ble_eq_true rfl) (rsl_cons rsl_one) (fun _ => rfl) (fun _ _ h => h.elim) (fun cdv A outer s H E hr y k => (y_if1 (Γ := [.fz (tyN tyS) y.1, .fz (tyN tyS) y.2]) (xt_isN (xe_var 1 rfl rfl (.inl rfl))) id (by exact (y_ret (Γ := [.fz (tyN tyS) y.1, .fz (tyN tyS) y.2]) (xe_isN (xe_var 0 rfl rfl (.inl rfl))) id)) (by exact (y_ret (Γ := [.fz (tyN tyS) y.1, .fz (tyN tyS) y.2]) (xe_andp (xe_isiN T.l_isinstance T.l_str (by decide +kernel) (by decide +kernel) (by decide +kernel) (xe_var 0 rfl rfl (.inl rfl))) (xe_one (xe_eqD (hr.units) (xe_var 0 rfl rfl (.inl rfl)) (xe_var 1 rfl rfl (.inl rfl)))) rfl) id))))
theorem ok_law_is_at (T : Txt K mg) : Cle P w K mg base "_law_is_at" 1 (spP (Row.cons (tyN tyS) (Row.one (tyN tyS))) tyB (w_law_is_at)) :=
  let ⟨_, F⟩ := T.f_law_is_at
  ⟨_, _, _, fo_law_is_at T F, T.g_law_is_at, F.kp, F.bindsN (fun _ _ _ _ _ _ us hl => match us, hl with | [_, _], _ => rfl)⟩
/-! _law_seen -/
theorem sc_law_seen : FnScope ["words", "parts", "whole", "total", "due", "text", "weight", "written", "texts", "word", "part"] ["words", "parts"] (defScope s_law_seen) := ⟨rfl, rfl, rfl, by decide +kernel, rfl, by decide +kernel, by decide +kernel⟩
def w_law_seen (y : (List (Str × Int)) × (List (Int × Str))) (k : Option (Str) → Prop) : Prop :=
  (y.1).length < sizeLine ∧ ((Bnd (((y.1.map fun x1 => x1.2)).sum) fun whole_2 => (y.2).length < sizeLine ∧ ((Bnd (((y.2.map fun x3 => x3.1)).sum) fun total_4 => WFor y.1 ([] : List (Str × (Int))) (fun (nx7 : ((List (Str × (Int)))) → Prop) (s5 : (List (Str × (Int)))) x6 => (s5).length < sizeLine ∧ ((Bnd (put s5 x6.1 x6.2) fun due_9 => nx7 due_9))) (fun (s5 : (List (Str × (Int)))) => WFor y.2 ([] : List (Str × (Int))) (fun (nx12 : ((List (Str × (Int)))) → Prop) (s10 : (List (Str × (Int)))) x11 => (s10).length < sizeLine ∧ ((Bnd (put s10 x11.2 (((look s10 x11.2).getD (0 : Int)) + x11.1)) fun written_14 => nx12 written_14))) (fun (s10 : (List (Str × (Int)))) => (y.1).length < sizeLine ∧ (((y.1.map fun x15 => x15.1)).length + ((keys s10)).length ≤ sizeLine ∧ ((Bnd ((y.1.map fun x15 => x15.1) ++ (keys s10)) fun texts_16 => WFor (sortS texts_16) () (fun (nx19 : Unit → Prop) (s17 : Unit) x18 => CMulW ((look s5 x18).getD (0 : Int)) total_4 ∧ (CMulW ((look s10 x18).getD (0 : Int)) whole_2 ∧ (if (!decide ((((look s5 x18).getD (0 : Int)) * total_4) = (((look s10 x18).getD (0 : Int)) * whole_2))) = true then (k (some x18)) else (nx19 ())))) (fun (s17 : Unit) => k (none : Option (Str))))))))))))
theorem fo_law_seen {fd : FuncData} (T : Txt K mg) (F : FunD K "_law_seen" "_law_seen" (defArgs s_law_seen) (defBody s_law_seen) (defScope s_law_seen) [] [] (He.fAd K ("_law_seen", none)) fd) : FnOk P w K mg base CX0 1 (He.fAd K ("_law_seen", none)) fd ["words", "parts"] (spP (Row.cons (tyL (tyT (Row.cons tyS (Row.one tyI)))) (Row.one (tyL (tyT (Row.cons tyI (Row.one tyS)))))) (tyN tyS) (w_law_seen)) :=
  fn_P (Γ0 := fun y => [.fz (tyL (tyT (Row.cons tyS (Row.one tyI)))) y.1, .fz (tyL (tyT (Row.cons tyI (Row.one tyS)))) y.2, .no, .no, .no, .no, .no, .no, .no, .no, .no]) (kn := fun _ => False) F sc_law_seen rfl (Nat.le_of_ble_eq_true rfl) (rsl_cons rsl_one) (fun _ => rfl) (fun _ _ h => h.elim) (fun cdv A outer s H E hr y k => (y_set (Γ := [.fz (tyL (tyT (Row.cons tyS (Row.one tyI)))) y.1, .fz (tyL (tyT (Row.cons tyI (Row.one tyS)))) y.2, .no, .no, .no, .no, .no, .no, .no, .no, .no]) 2 sc_law_seen.nd rfl (.inl rfl) (xe_sum rfl T.l_sum (xl_of (xe_f (xf_c (xc_lcm (f := fun x1 => x1.2) (B := tyI) (ΓT := fun (x1 : Str × Int) => [.fz (tyL (tyT (Row.cons tyS (Row.one tyI)))) y.1, .fz (tyL (tyT (Row.cons tyI (Row.one tyS)))) y.2, .no, .no, .no, .no, .no, .no, .no, .fz (tyT (Row.cons tyS (Row.one tyI))) x1, .no]) [("word", 9)] rfl sc_law_seen.nd (xi_list (xe_var 0 rfl rfl (.inl rfl))) (by show blkC ["words", "parts", "whole", "total", "due", "text", "weight", "written", "texts", "word", "part"] (defScope s_law_seen) _ [("word", 9)] = true; decide +kernel) (fun _ _ _ _ _ => (xg_name 9 sc_law_seen.nd rfl (.inl rfl))) (by decide) (fun _ _ _ _ _ x1 => (xe_itT (xe_var 9 rfl rfl (.inl rfl)) (ra_succ ra_one) xe_int (fun _ _ => rfl))) rfl))))) id (fun whole_2 => (y_set (Γ := [.fz (tyL (tyT (Row.cons tyS (Row.one tyI)))) y.1, .fz (tyL (tyT (Row.cons tyI (Row.one tyS)))) y.2, .fz tyI whole_2, .no, .no, .no, .no, .no, .no, .no, .no]) 3 sc_law_seen.nd rfl (.inl rfl) (xe_sum rfl T.l_sum (xl_of (xe_f (xf_c (xc_lcm (f := fun x3 => x3.1) (B := tyI) (ΓT := fun (x3 : Int × Str) => [.fz (tyL (tyT (Row.cons tyS (Row.one tyI)))) y.1, .fz (tyL (tyT (Row.cons tyI (Row.one tyS)))) y.2, .fz tyI whole_2, .no, .no, .no, .no, .no, .no, .no, .fz (tyT (Row.cons tyI (Row.one tyS))) x3]) [("part", 10)] rfl sc_law_seen.nd (xi_list (xe_var 1 rfl rfl (.inl rfl))) (by show blkC ["words", "parts", "whole", "total", "due", "text", "weight", "written", "texts", "word", "part"] (defScope s_law_seen) _ [("part", 10)] = true; decide +kernel) (fun _ _ _ _ _ => (xg_name 10 sc_law_seen.nd rfl (.inl rfl))) (by decide) (fun _ _ _ _ _ x3 => (xe_itT (xe_var 10 rfl rfl (.inl rfl)) ra_zero xe_int (fun _ _ => rfl))) rfl))))) id (fun total_4 => (xb_newD (Γ := [.fz (tyL (tyT (Row.cons tyS (Row.one tyI)))) y.1, .fz (tyL (tyT (Row.cons tyI (Row.one tyS)))) y.2, .fz tyI whole_2, .fz tyI total_4, .no, .no, .no, .no, .no, .no, .no]) 4 tyI sc_law_seen.nd rfl (.inl rfl) (y_for (Γ := [.fz (tyL (tyT (Row.cons tyS (Row.one tyI)))) y.1, .fz (tyL (tyT (Row.cons tyI (Row.one tyS)))) y.2, .fz tyI whole_2, .fz tyI total_4, .md tyI ([] : List (Str × (Int))), .no, .no, .no, .no, .no, .no]) (ΓT := fun (s5 : (List (Str × (Int)))) (x6 : Str × Int) => [.fz (tyL (tyT (Row.cons tyS (Row.one tyI)))) y.1, .fz (tyL (tyT (Row.cons tyI (Row.one tyS)))) y.2, .fz tyI whole_2, .fz tyI total_4, .md tyI s5, .fz tyS x6.1, .fz tyI x6.2, .no, .no, .no, .no]) (fun s5 : (List (Str × (Int))) => [.fz (tyL (tyT (Row.cons tyS (Row.one tyI)))) y.1, .fz (tyL (tyT (Row.cons tyI (Row.one tyS)))) y.2, .fz tyI whole_2, .fz tyI total_4, .md tyI s5, .no, .no, .no, .no, .no, .no]) ([] : List (Str × (Int))) PassesOwn.never rfl (xi_list (xe_var 0 rfl rfl (.inl rfl))) (Cv.refl _) (fun s5 => (xg_tup rfl (xgs_cons (xg_name 5 sc_law_seen.nd rfl (.inl rfl)) (fun _ => (xgs_one (xg_name 6 sc_law_seen.nd rfl (.inl rfl))))))) id (fun nx7 s5 x6 => by exact (y_put (Γ := [.fz (tyL (tyT (Row.cons tyS (Row.one tyI)))) y.1, .fz (tyL (tyT (Row.cons tyI (Row.one tyS)))) y.2, .fz tyI whole_2, .fz tyI total_4, .md tyI s5, .fz tyS x6.1, .fz tyI x6.2, .no, .no, .no, .no]) 4 (hu_of hr) rfl rfl (.inl rfl) (xe_var 6 rfl rfl (.inl rfl)) (xe_var 5 rfl rfl (.inl rfl)) id (fun due_9 => (y_join (ΓJ := fun s5 : (List (Str × (Int))) => [.fz (tyL (tyT (Row.cons tyS (Row.one tyI)))) y.1, .fz (tyL (tyT (Row.cons tyI (Row.one tyS)))) y.2, .fz tyI whole_2, .fz tyI total_4, .md tyI s5, .no, .no, .no, .no, .no, .no]) due_9 (Wk.cv (.same (.same (.same (.same (.same (.no (.no (.same (.same (.same (.same .nil)))))))))))) rfl id)))) (fun s5 => by exact (xb_newD (Γ := [.fz (tyL (tyT (Row.cons tyS (Row.one tyI)))) y.1, .fz (tyL (tyT (Row.cons tyI (Row.one tyS)))) y.2, .fz tyI whole_2, .fz tyI total_4, .md tyI s5, .no, .no, .no, .no, .no, .no]) 7 tyI sc_law_seen.nd rfl (.inl rfl) (y_for (Γ := [.fz (tyL (tyT (Row.cons tyS (Row.one tyI)))) y.1, .fz (tyL (tyT (Row.cons tyI (Row.one tyS)))) y.2, .fz tyI whole_2, .fz tyI total_4, .md tyI s5, .no, .no, .md tyI ([] : List (Str × (Int))), .no, .no, .no]) (ΓT := fun (s10 : (List (Str × (Int)))) (x11 : Int × Str) => [.fz (tyL (tyT (Row.cons tyS (Row.one tyI)))) y.1, .fz (tyL (tyT (Row.cons tyI (Row.one tyS)))) y.2, .fz tyI whole_2, .fz tyI total_4, .md tyI s5, .fz tyS x11.2, .fz tyI x11.1, .md tyI s10, .no, .no, .no]) (fun s10 : (List (Str × (Int))) => [.fz (tyL (tyT (Row.cons tyS (Row.one tyI)))) y.1, .fz (tyL (tyT (Row.cons tyI (Row.one tyS)))) y.2, .fz tyI whole_2, .fz tyI total_4, .md tyI s5, .no, .no, .md tyI s10, .no, .no, .no]) ([] : List (Str × (Int))) PassesOwn.never rfl (xi_list (xe_var 1 rfl rfl (.inl rfl))) (Cv.refl _) (fun s10 => (xg_tup rfl (xgs_cons (xg_name 6 sc_law_seen.nd rfl (.inl rfl)) (fun _ => (xgs_one (xg_name 5 sc_law_seen.nd rfl (.inl rfl))))))) id (fun nx12 s10 x11 => by exact (y_put (Γ := [.fz (tyL (tyT (Row.cons tyS (Row.one tyI)))) y.1, .fz (tyL (tyT (Row.cons tyI (Row.one tyS)))) y.2, .fz tyI whole_2, .fz tyI total_4, .md tyI s5, .fz tyS x11.2, .fz tyI x11.1, .md tyI s10, .no, .no, .no]) 7 (hu_of hr) rfl rfl (.inl rfl) (xe_add (xe_getD (hu_of hr) (xd_own 7 rfl rfl (.inl rfl)) (xe_var 5 rfl rfl (.inl rfl)) xe_int ⟨rfl, rfl, rfl, rfl⟩) (xe_var 6 rfl rfl (.inl rfl))) (xe_var 5 rfl rfl (.inl rfl)) id (fun written_14 => (y_join (ΓJ := fun s10 : (List (Str × (Int))) => [.fz (tyL (tyT (Row.cons tyS (Row.one tyI)))) y.1, .fz (tyL (tyT (Row.cons tyI (Row.one tyS)))) y.2, .fz tyI whole_2, .fz tyI total_4, .md tyI s5, .no, .no, .md tyI s10, .no, .no, .no]) written_14 (Wk.cv (.same (.same (.same (.same (.same (.no (.no (.same (.same (.same (.same .nil)))))))))))) rfl id)))) (fun s10 => by exact (y_set (Γ := [.fz (tyL (tyT (Row.cons tyS (Row.one tyI)))) y.1, .fz (tyL (tyT (Row.cons tyI (Row.one tyS)))) y.2, .fz tyI whole_2, .fz tyI total_4, .md tyI s5, .no, .no, .md tyI s10, .no, .no, .no]) 8 sc_law_seen.nd rfl (.inl rfl) (xe_f (xf_cat (xl_of (xe_f (xf_c (xc_lcm (f := fun x15 => x15.1) (B := tyS) (ΓT := fun (x15 : Str × Int) => [.fz (tyL (tyT (Row.cons tyS (Row.one tyI)))) y.1, .fz (tyL (tyT (Row.cons tyI (Row.one tyS)))) y.2, .fz tyI whole_2, .fz tyI total_4, .md tyI s5, .no, .no, .md tyI s10, .no, .fz (tyT (Row.cons tyS (Row.one tyI))) x15, .no]) [("word", 9)] rfl sc_law_seen.nd (xi_list (xe_var 0 rfl rfl (.inl rfl))) (by show blkC ["words", "parts", "whole", "total", "due", "text", "weight", "written", "texts", "word", "part"] (defScope s_law_seen) _ [("word", 9)] = true; decide +kernel) (fun _ _ _ _ _ => (xg_name 9 sc_law_seen.nd rfl (.inl rfl))) (by decide) (fun _ _ _ _ _ x15 => (xe_itT (xe_var 9 rfl rfl (.inl rfl)) ra_zero xe_int (fun _ _ => rfl))) rfl)))) (xl_of (xe_f (xf_listD rfl T.l_list 7 rfl rfl (.inl rfl)))))) id (fun texts_16 => (y_for (Γ := [.fz (tyL (tyT (Row.cons tyS (Row.one tyI)))) y.1, .fz (tyL (tyT (Row.cons tyI (Row.one tyS)))) y.2, .fz tyI whole_2, .fz tyI total_4, .md tyI s5, .no, .no, .md tyI s10, .fz (tyL tyS) texts_16, .no, .no]) (ΓT := fun (s17 : Unit) (x18 : Str) => [.fz (tyL (tyT (Row.cons tyS (Row.one tyI)))) y.1, .fz (tyL (tyT (Row.cons tyI (Row.one tyS)))) y.2, .fz tyI whole_2, .fz tyI total_4, .md tyI s5, .fz tyS x18, .no, .md tyI s10, .fz (tyL tyS) texts_16, .no, .no]) (fun s17 : Unit => [.fz (tyL (tyT (Row.cons tyS (Row.one tyI)))) y.1, .fz (tyL (tyT (Row.cons tyI (Row.one tyS)))) y.2, .fz tyI whole_2, .fz tyI total_4, .md tyI s5, .no, .no, .md tyI s10, .fz (tyL tyS) texts_16, .no, .no]) () PassesOwn.never rfl (xi_list (xe_f (xf_sortSn T.l_sorted hr.units (xl_of (xe_var 8 rfl rfl (.inl rfl)))))) (Cv.refl _) (fun s17 => (xg_name 5 sc_law_seen.nd rfl (.inl rfl))) id (fun nx19 s17 x18 => by exact (y_if1 (Γ := [.fz (tyL (tyT (Row.cons tyS (Row.one tyI)))) y.1, .fz (tyL (tyT (Row.cons tyI (Row.one tyS)))) y.2, .fz tyI whole_2, .fz tyI total_4, .md tyI s5, .fz tyS x18, .no, .md tyI s10, .fz (tyL tyS) texts_16, .no, .no]) (xt_ne (xe_mul (xe_getD (hu_of hr) (xd_own 4 rfl rfl (.inl rfl)) (xe_var 5 rfl rfl (.inl rfl)) xe_int ⟨rfl, rfl, rfl, rfl⟩) (xe_var 3 rfl rfl (.inl rfl))) (xe_mul (xe_getD (hu_of hr) (xd_own 7 rfl rfl (.inl rfl)) (xe_var 5 rfl rfl (.inl rfl)) xe_int ⟨rfl, rfl, rfl, rfl⟩) (xe_var 2 rfl rfl (.inl rfl)))) id (by exact (y_ret (Γ := [.fz (tyL (tyT (Row.cons tyS (Row.one tyI)))) y.1, .fz (tyL (tyT (Row.cons tyI (Row.one tyS)))) y.2, .fz tyI whole_2, .fz tyI total_4, .md tyI s5, .fz tyS x18, .no, .md tyI s10, .fz (tyL tyS) texts_16, .no, .no]) (xe_some (xe_var 5 rfl rfl (.inl rfl))) id)) (by exact (y_join (ΓJ := fun s17 : Unit => [.fz (tyL (tyT (Row.cons tyS (Row.one tyI)))) y.1, .fz (tyL (tyT (Row.cons tyI (Row.one tyS)))) y.2, .fz tyI whole_2, .fz tyI total_4, .md tyI s5, .no, .no, .md tyI s10, .fz (tyL tyS) texts_16, .no, .no]) () (Wk.cv (.same (.same (.same (.same (.same (.no (.same (.same (.same (.same (.same .nil)))))))))))) rfl id)))) (fun s17 => by exact (y_ret (Γ := [.fz (tyL (tyT (Row.cons tyS (Row.one tyI)))) y.1, .fz (tyL (tyT (Row.cons tyI (Row.one tyS)))) y.2, .fz tyI whole_2, .fz tyI total_4, .md tyI s5, .no, .no, .md tyI s10, .fz (tyL tyS) texts_16, .no, .no]) xe_nonN id))))))))))))))))
theorem ok_law_seen (T : Txt K mg) : Cle P w K mg base "_law_seen" 1 (spP (Row.cons (tyL (tyT (Row.cons tyS (Row.one tyI)))) (Row.one (tyL (tyT (Row.cons tyI (Row.one tyS)))))) (tyN tyS) (w_law_seen)) :=
  let ⟨_, F⟩ := T.f_law_seen
  ⟨_, _, _, fo_law_seen T F, T.g_law_seen, F.kp, F.bindsN (fun _ _ _ _ _ _ us hl => match us, hl with | [_, _], _ => rfl)⟩
/-! Machine.all_weights -/
theorem sc_Machine_all_weights : FnScope ["self", "begun", "_", "longer", "text", "weight", "state", "row", "times", "letter", "part", "target"] ["self"] (defScope s_Machine_all_weights) := ⟨rfl, rfl, rfl, by decide +kernel, rfl, by decide +kernel, by decide +kernel⟩
def w_Machine_all_weights (y : ((Str × Int × (List (List (Int × Int))) × Int × Int × Int))) (k : List (Str × (Int)) → Prop) : Prop :=
  (Bnd [(("" : Str), ((1 : Int), y.2.1))] fun begun_1 => (-(2 ^ 62) ≤ y.2.2.2.1 ∧ y.2.2.2.1 < 2 ^ 62) ∧ (WFor (rng 0 (y.2.2.2.1).toNat) begun_1 (fun (nx4 : ((List (Str × (Int × Int)))) → Prop) (s2 : (List (Str × (Int × Int)))) x3 => WFor s2 ([] : List (Str × (Int × Int))) (fun (nx8 : ((List (Str × (Int × Int)))) → Prop) (s6 : (List (Str × (Int × Int)))) x7 => ∃ y10, atI y.2.2.1 x7.2.2 = some y10 ∧ ((Bnd y10 fun row_11 => (row_11).length < sizeLine ∧ (CDivW y.2.2.2.2.1 (((row_11.map fun x12 => x12.1)).sum) ∧ ((Bnd (y.2.2.2.2.1 / ((row_11.map fun x12 => x12.1)).sum) fun times_13 => WFor ((signs y.1).zip row_11) s6 (fun (nx16 : ((List (Str × (Int × Int)))) → Prop) (s14 : (List (Str × (Int × Int)))) x15 => (Jn (fun s18 : (List (Str × (Int × Int))) => nx16 s18) fun j19 => if (decide ((0 : Int) < x15.2.1)) = true then (CMulW x7.2.1 x15.2.1 ∧ (CMulW (x7.2.1 * x15.2.1) times_13 ∧ ((x7.1).length + (x15.1).length ≤ sizeLine ∧ ((s14).length < sizeLine ∧ ((Bnd (put s14 (x7.1 ++ x15.1) (((x7.2.1 * x15.2.1) * times_13), x15.2.2)) fun longer_20 => j19 longer_20)))))) else (j19 s14))) (fun (s14 : (List (Str × (Int × Int)))) => nx8 s14))))))) (fun (s6 : (List (Str × (Int × Int)))) => (Bnd s6 fun begun_21 => nx4 begun_21))) (fun (s2 : (List (Str × (Int × Int)))) => (s2).length < sizeLine ∧ (k (dictOf (s2.map fun x22 => (x22.1, x22.2.1)))))))
theorem fo_Machine_all_weights {fd : FuncData} (T : Txt K mg) (F : FunD K "all_weights" "Machine.all_weights" (defArgs s_Machine_all_weights) (defBody s_Machine_all_weights) (defScope s_Machine_all_weights) [] [] (He.fAd K ("Machine", some "all_weights")) fd) : FnOk P w K mg base CX0 1 (He.fAd K ("Machine", some "all_weights")) fd ["self"] (spP (Row.one (tyO (He.ga K "Machine") ns_Machine0 (Row.cons tyS (Row.cons tyI (Row.cons (tyP (tyP (tyT (Row.cons tyI (Row.one tyI))))) (Row.cons tyI (Row.cons tyI (Row.one tyI)))))))) (tyD tyI) (w_Machine_all_weights)) :=
  fn_P (Γ0 := fun y => [.fz (tyO (He.ga K "Machine") ns_Machine0 (Row.cons tyS (Row.cons tyI (Row.cons (tyP (tyP (tyT (Row.cons tyI (Row.one tyI))))) (Row.cons tyI (Row.cons tyI (Row.one tyI))))))) y, .no, .no, .no, .no, .no, .no, .no, .no, .no, .no, .no]) (kn := fun _ => False) F sc_Machine_all_weights rfl (Nat.le_of_ble_eq_true rfl) rsl_one (fun _ => rfl) (fun _ _ h => h.elim) (fun cdv A outer s H E hr y k => (y_setDn (Γ := [.fz (tyO (He.ga K "Machine") ns_Machine0 (Row.cons tyS (Row.cons tyI (Row.cons (tyP (tyP (tyT (Row.cons tyI (Row.one tyI))))) (Row.cons tyI (Row.cons tyI (Row.one tyI))))))) y, .no, .no, .no, .no, .no, .no, .no, .no, .no, .no, .no]) 1 sc_Machine_all_weights.nd rfl (.inl rfl) (xd_one xe_str (xe_tup (xa_cons xe_int (xa_one (xe_fld T.c_Machine T.n_Machine_start nd_Machine0 rfl (ra_succ ra_zero) (xe_var 0 rfl rfl (.inl rfl))))))) id (fun begun_1 => (xb_cv (cv_md 1 rfl) (y_for (Γ := [.fz (tyO (He.ga K "Machine") ns_Machine0 (Row.cons tyS (Row.cons tyI (Row.cons (tyP (tyP (tyT (Row.cons tyI (Row.one tyI))))) (Row.cons tyI (Row.cons tyI (Row.one tyI))))))) y, .fz (tyD (tyT (Row.cons tyI (Row.one tyI)))) begun_1, .no, .no, .no, .no, .no, .no, .no, .no, .no, .no]) (ΓT := fun (s2 : (List (Str × (Int × Int)))) (x3 : Int) => [.fz (tyO (He.ga K "Machine") ns_Machine0 (Row.cons tyS (Row.cons tyI (Row.cons (tyP (tyP (tyT (Row.cons tyI (Row.one tyI))))) (Row.cons tyI (Row.cons tyI (Row.one tyI))))))) y, .fz (tyD (tyT (Row.cons tyI (Row.one tyI)))) s2, .fz tyI x3, .no, .no, .no, .no, .no, .no, .no, .no, .no]) (fun s2 : (List (Str × (Int × Int))) => [.fz (tyO (He.ga K "Machine") ns_Machine0 (Row.cons tyS (Row.cons tyI (Row.cons (tyP (tyP (tyT (Row.cons tyI (Row.one tyI))))) (Row.cons tyI (Row.cons tyI (Row.one tyI))))))) y, .fz (tyD (tyT (Row.cons tyI (Row.one tyI)))) s2, .no, .no, .no, .no, .no, .no, .no, .no, .no, .no]) begun_1 PassesOwn.never rfl (xi_range T.l_range (xe_fld T.c_Machine T.n_Machine_length nd_Machine0 rfl (ra_succ (ra_succ (ra_succ ra_zero))) (xe_var 0 rfl rfl (.inl rfl)))) (Cv.refl _) (fun s2 => (xg_name 2 sc_Machine_all_weights.nd rfl (.inl rfl))) id (fun nx4 s2 x3 => by exact (xb_newD (Γ := [.fz (tyO (He.ga K "Machine") ns_Machine0 (Row.cons tyS (Row.cons tyI (Row.cons (tyP (tyP (tyT (Row.cons tyI (Row.one tyI))))) (Row.cons tyI (Row.cons tyI (Row.one tyI))))))) y, .fz (tyD (tyT (Row.cons tyI (Row.one tyI)))) s2, .fz tyI x3, .no, .no, .no, .no, .no, .no, .no, .no, .no]) 3 (tyT (Row.cons tyI (Row.one tyI))) sc_Machine_all_weights.nd rfl (.inl rfl) (y_forD (Γ := [.fz (tyO (He.ga K "Machine") ns_Machine0 (Row.cons tyS (Row.cons tyI (Row.cons (tyP (tyP (tyT (Row.cons tyI (Row.one tyI))))) (Row.cons tyI (Row.cons tyI (Row.one tyI))))))) y, .fz (tyD (tyT (Row.cons tyI (Row.one tyI)))) s2, .fz tyI x3, .md (tyT (Row.cons tyI (Row.one tyI))) ([] : List (Str × (Int × Int))), .no, .no, .no, .no, .no, .no, .no, .no]) (ΓT := fun (s6 : (List (Str × (Int × Int)))) (x7 : Str × (Int × Int)) => [.fz (tyO (He.ga K "Machine") ns_Machine0 (Row.cons tyS (Row.cons tyI (Row.cons (tyP (tyP (tyT (Row.cons tyI (Row.one tyI))))) (Row.cons tyI (Row.cons tyI (Row.one tyI))))))) y, .fz (tyD (tyT (Row.cons tyI (Row.one tyI)))) s2, .fz tyI x3, .md (tyT (Row.cons tyI (Row.one tyI))) s6, .fz tyS x7.1, .fz tyI x7.2.1, .fz tyI x7.2.2, .no, .no, .no, .no, .no]) (fun s6 : (List (Str × (Int × Int))) => [.fz (tyO (He.ga K "Machine") ns_Machine0 (Row.cons tyS (Row.cons tyI (Row.cons (tyP (tyP (tyT (Row.cons tyI (Row.one tyI))))) (Row.cons tyI (Row.cons tyI (Row.one tyI))))))) y, .fz (tyD (tyT (Row.cons tyI (Row.one tyI)))) s2, .fz tyI x3, .md (tyT (Row.cons tyI (Row.one tyI))) s6, .no, .no, .no, .no, .no, .no, .no, .no]) ([] : List (Str × (Int × Int))) PassesOwn.never rfl (path_name 1 rfl rfl (.inl rfl)) wk_items (Cv.refl _) (fun s6 => (xg_tup rfl (xgs_cons (xg_name 4 sc_Machine_all_weights.nd rfl (.inl rfl)) (fun _ => (xgs_one (xg_tup rfl (xgs_cons (xg_name 5 sc_Machine_all_weights.nd rfl (.inl rfl)) (fun _ => (xgs_one (xg_name 6 sc_Machine_all_weights.nd rfl (.inl rfl))))))))))) id (fun nx8 s6 x7 => by exact (y_set (Γ := [.fz (tyO (He.ga K "Machine") ns_Machine0 (Row.cons tyS (Row.cons tyI (Row.cons (tyP (tyP (tyT (Row.cons tyI (Row.one tyI))))) (Row.cons tyI (Row.cons tyI (Row.one tyI))))))) y, .fz (tyD (tyT (Row.cons tyI (Row.one tyI)))) s2, .fz tyI x3, .md (tyT (Row.cons tyI (Row.one tyI))) s6, .fz tyS x7.1, .fz tyI x7.2.1, .fz tyI x7.2.2, .no, .no, .no, .no, .no]) 7 sc_Machine_all_weights.nd rfl (.inl rfl) (xe_ixP (xe_fld T.c_Machine T.n_Machine_rows nd_Machine0 rfl (ra_succ (ra_succ ra_zero)) (xe_var 0 rfl rfl (.inl rfl))) (xe_var 6 rfl rfl (.inl rfl)) (fun _ _ => rfl)) id (fun row_11 => (y_set (Γ := [.fz (tyO (He.ga K "Machine") ns_Machine0 (Row.cons tyS (Row.cons tyI (Row.cons (tyP (tyP (tyT (Row.cons tyI (Row.one tyI))))) (Row.cons tyI (Row.cons tyI (Row.one tyI))))))) y, .fz (tyD (tyT (Row.cons tyI (Row.one tyI)))) s2, .fz tyI x3, .md (tyT (Row.cons tyI (Row.one tyI))) s6, .fz tyS x7.1, .fz tyI x7.2.1, .fz tyI x7.2.2, .fz (tyP (tyT (Row.cons tyI (Row.one tyI)))) row_11, .no, .no, .no, .no]) 8 sc_Machine_all_weights.nd rfl (.inl rfl) (xe_fdiv (xe_fld T.c_Machine T.n_Machine_unit nd_Machine0 rfl (ra_succ (ra_succ (ra_succ (ra_succ ra_zero)))) (xe_var 0 rfl rfl (.inl rfl))) (xe_sum rfl T.l_sum (xl_of (xe_f (xf_c (xc_lcm (f := fun x12 => x12.1) (B := tyI) (ΓT := fun (x12 : Int × Int) => [.fz (tyO (He.ga K "Machine") ns_Machine0 (Row.cons tyS (Row.cons tyI (Row.cons (tyP (tyP (tyT (Row.cons tyI (Row.one tyI))))) (Row.cons tyI (Row.cons tyI (Row.one tyI))))))) y, .fz (tyD (tyT (Row.cons tyI (Row.one tyI)))) s2, .fz tyI x12.2, .md (tyT (Row.cons tyI (Row.one tyI))) s6, .fz tyS x7.1, .fz tyI x7.2.1, .fz tyI x7.2.2, .fz (tyP (tyT (Row.cons tyI (Row.one tyI)))) row_11, .no, .no, .fz tyI x12.1, .no]) [("part", 10), ("_", 2)] rfl sc_Machine_all_weights.nd (xi_tup (xe_var 7 rfl rfl (.inl rfl))) (by show blkC ["self", "begun", "_", "longer", "text", "weight", "state", "row", "times", "letter", "part", "target"] (defScope s_Machine_all_weights) _ [("part", 10), ("_", 2)] = true; decide +kernel) (fun _ _ _ _ _ => (xg_tup rfl (xgs_cons (xg_name 10 sc_Machine_all_weights.nd rfl (.inl rfl)) (fun _ => (xgs_one (xg_name 2 sc_Machine_all_weights.nd rfl (.inl rfl))))))) (by decide) (fun _ _ _ _ _ x12 => (xe_var 10 rfl rfl (.inl rfl))) rfl)))))) id (fun times_13 => (y_for (Γ := [.fz (tyO (He.ga K "Machine") ns_Machine0 (Row.cons tyS (Row.cons tyI (Row.cons (tyP (tyP (tyT (Row.cons tyI (Row.one tyI))))) (Row.cons tyI (Row.cons tyI (Row.one tyI))))))) y, .fz (tyD (tyT (Row.cons tyI (Row.one tyI)))) s2, .fz tyI x3, .md (tyT (Row.cons tyI (Row.one tyI))) s6, .fz tyS x7.1, .fz tyI x7.2.1, .fz tyI x7.2.2, .fz (tyP (tyT (Row.cons tyI (Row.one tyI)))) row_11, .fz tyI times_13, .no, .no, .no]) (ΓT := fun (s14 : (List (Str × (Int × Int)))) (x15 : Str × (Int × Int)) => [.fz (tyO (He.ga K "Machine") ns_Machine0 (Row.cons tyS (Row.cons tyI (Row.cons (tyP (tyP (tyT (Row.cons tyI (Row.one tyI))))) (Row.cons tyI (Row.cons tyI (Row.one tyI))))))) y, .fz (tyD (tyT (Row.cons tyI (Row.one tyI)))) s2, .fz tyI x3, .md (tyT (Row.cons tyI (Row.one tyI))) s14, .fz tyS x7.1, .fz tyI x7.2.1, .fz tyI x7.2.2, .fz (tyP (tyT (Row.cons tyI (Row.one tyI)))) row_11, .fz tyI times_13, .fz tyS x15.1, .fz tyI x15.2.1, .fz tyI x15.2.2]) (fun s14 : (List (Str × (Int × Int))) => [.fz (tyO (He.ga K "Machine") ns_Machine0 (Row.cons tyS (Row.cons tyI (Row.cons (tyP (tyP (tyT (Row.cons tyI (Row.one tyI))))) (Row.cons tyI (Row.cons tyI (Row.one tyI))))))) y, .fz (tyD (tyT (Row.cons tyI (Row.one tyI)))) s2, .fz tyI x3, .md (tyT (Row.cons tyI (Row.one tyI))) s14, .fz tyS x7.1, .fz tyI x7.2.1, .fz tyI x7.2.2, .fz (tyP (tyT (Row.cons tyI (Row.one tyI)))) row_11, .fz tyI times_13, .no, .no, .no]) s6 PassesOwn.never rfl (xi_zip T.l_zip (xe_fld T.c_Machine T.n_Machine_alphabet nd_Machine0 rfl ra_zero (xe_var 0 rfl rfl (.inl rfl))) (xe_var 7 rfl rfl (.inl rfl))) (Cv.refl _) (fun s14 => (xg_tup rfl (xgs_cons (xg_name 9 sc_Machine_all_weights.nd rfl (.inl rfl)) (fun _ => (xgs_one (xg_tup rfl (xgs_cons (xg_name 10 sc_Machine_all_weights.nd rfl (.inl rfl)) (fun _ => (xgs_one (xg_name 11 sc_Machine_all_weights.nd rfl (.inl rfl))))))))))) id (fun nx16 s14 x15 => by exact (y_if (Γ := [.fz (tyO (He.ga K "Machine") ns_Machine0 (Row.cons tyS (Row.cons tyI (Row.cons (tyP (tyP (tyT (Row.cons tyI (Row.one tyI))))) (Row.cons tyI (Row.cons tyI (Row.one tyI))))))) y, .fz (tyD (tyT (Row.cons tyI (Row.one tyI)))) s2, .fz tyI x3, .md (tyT (Row.cons tyI (Row.one tyI))) s14, .fz tyS x7.1, .fz tyI x7.2.1, .fz tyI x7.2.2, .fz (tyP (tyT (Row.cons tyI (Row.one tyI)))) row_11, .fz tyI times_13, .fz tyS x15.1, .fz tyI x15.2.1, .fz tyI x15.2.2]) (fun s18 : (List (Str × (Int × Int))) => [.fz (tyO (He.ga K "Machine") ns_Machine0 (Row.cons tyS (Row.cons tyI (Row.cons (tyP (tyP (tyT (Row.cons tyI (Row.one tyI))))) (Row.cons tyI (Row.cons tyI (Row.one tyI))))))) y, .fz (tyD (tyT (Row.cons tyI (Row.one tyI)))) s2, .fz tyI x3, .md (tyT (Row.cons tyI (Row.one tyI))) s18, .fz tyS x7.1, .fz tyI x7.2.1, .fz tyI x7.2.2, .fz (tyP (tyT (Row.cons tyI (Row.one tyI)))) row_11, .fz tyI times_13, .fz tyS x15.1, .fz tyI x15.2.1, .fz tyI x15.2.2]) (xt_gt (xe_var 10 rfl rfl (.inl rfl)) xe_int) id (fun j19 => by exact (y_put (Γ := [.fz (tyO (He.ga K "Machine") ns_Machine0 (Row.cons tyS (Row.cons tyI (Row.cons (tyP (tyP (tyT (Row.cons tyI (Row.one tyI))))) (Row.cons tyI (Row.cons tyI (Row.one tyI))))))) y, .fz (tyD (tyT (Row.cons tyI (Row.one tyI)))) s2, .fz tyI x3, .md (tyT (Row.cons tyI (Row.one tyI))) s14, .fz tyS x7.1, .fz tyI x7.2.1, .fz tyI x7.2.2, .fz (tyP (tyT (Row.cons tyI (Row.one tyI)))) row_11, .fz tyI times_13, .fz tyS x15.1, .fz tyI x15.2.1, .fz tyI x15.2.2]) 3 (hu_of hr) rfl rfl (.inl rfl) (xe_tup (xa_cons (xe_mul (xe_mul (xe_var 5 rfl rfl (.inl rfl)) (xe_var 10 rfl rfl (.inl rfl))) (xe_var 8 rfl rfl (.inl rfl))) (xa_one (xe_var 11 rfl rfl (.inl rfl))))) (xe_addS (xe_var 4 rfl rfl (.inl rfl)) (xe_var 9 rfl rfl (.inl rfl))) id (fun longer_20 => (y_join (ΓJ := fun s18 : (List (Str × (Int × Int))) => [.fz (tyO (He.ga K "Machine") ns_Machine0 (Row.cons tyS (Row.cons tyI (Row.cons (tyP (tyP (tyT (Row.cons tyI (Row.one tyI))))) (Row.cons tyI (Row.cons tyI (Row.one tyI))))))) y, .fz (tyD (tyT (Row.cons tyI (Row.one tyI)))) s2, .fz tyI x3, .md (tyT (Row.cons tyI (Row.one tyI))) s18, .fz tyS x7.1, .fz tyI x7.2.1, .fz tyI x7.2.2, .fz (tyP (tyT (Row.cons tyI (Row.one tyI)))) row_11, .fz tyI times_13, .fz tyS x15.1, .fz tyI x15.2.1, .fz tyI x15.2.2]) longer_20 (Cv.refl _) rfl id)))) (fun j19 => by exact (y_join (ΓJ := fun s18 : (List (Str × (Int × Int))) => [.fz (tyO (He.ga K "Machine") ns_Machine0 (Row.cons tyS (Row.cons tyI (Row.cons (tyP (tyP (tyT (Row.cons tyI (Row.one tyI))))) (Row.cons tyI (Row.cons tyI (Row.one tyI))))))) y, .fz (tyD (tyT (Row.cons tyI (Row.one tyI)))) s2, .fz tyI x3, .md (tyT (Row.cons tyI (Row.one tyI))) s18, .fz tyS x7.1, .fz tyI x7.2.1, .fz tyI x7.2.2, .fz (tyP (tyT (Row.cons tyI (Row.one tyI)))) row_11, .fz tyI times_13, .fz tyS x15.1, .fz tyI x15.2.1, .fz tyI x15.2.2]) s14 (Cv.refl _) rfl id)) (fun s18 => by exact (y_join (ΓJ := fun s14 : (List (Str × (Int × Int))) => [.fz (tyO (He.ga K "Machine") ns_Machine0 (Row.cons tyS (Row.cons tyI (Row.cons (tyP (tyP (tyT (Row.cons tyI (Row.one tyI))))) (Row.cons tyI (Row.cons tyI (Row.one tyI))))))) y, .fz (tyD (tyT (Row.cons tyI (Row.one tyI)))) s2, .fz tyI x3, .md (tyT (Row.cons tyI (Row.one tyI))) s14, .fz tyS x7.1, .fz tyI x7.2.1, .fz tyI x7.2.2, .fz (tyP (tyT (Row.cons tyI (Row.one tyI)))) row_11, .fz tyI times_13, .no, .no, .no]) s18 (Wk.cv (.same (.same (.same (.same (.same (.same (.same (.same (.same (.no (.no (.no .nil))))))))))))) rfl id)))) (fun s14 => by exact (y_join (ΓJ := fun s6 : (List (Str × (Int × Int))) => [.fz (tyO (He.ga K "Machine") ns_Machine0 (Row.cons tyS (Row.cons tyI (Row.cons (tyP (tyP (tyT (Row.cons tyI (Row.one tyI))))) (Row.cons tyI (Row.cons tyI (Row.one tyI))))))) y, .fz (tyD (tyT (Row.cons tyI (Row.one tyI)))) s2, .fz tyI x3, .md (tyT (Row.cons tyI (Row.one tyI))) s6, .no, .no, .no, .no, .no, .no, .no, .no]) s14 (Wk.cv (.same (.same (.same (.same (.no (.no (.no (.no (.no (.same (.same (.same .nil))))))))))))) rfl id)))))))) (fun s6 => by exact (xb_cv (cv_md 3 rfl) (y_set (Γ := [.fz (tyO (He.ga K "Machine") ns_Machine0 (Row.cons tyS (Row.cons tyI (Row.cons (tyP (tyP (tyT (Row.cons tyI (Row.one tyI))))) (Row.cons tyI (Row.cons tyI (Row.one tyI))))))) y, .fz (tyD (tyT (Row.cons tyI (Row.one tyI)))) s2, .fz tyI x3, .fz (tyD (tyT (Row.cons tyI (Row.one tyI)))) s6, .no, .no, .no, .no, .no, .no, .no, .no]) 1 sc_Machine_all_weights.nd rfl (.inl rfl) (xe_var 3 rfl rfl (.inl rfl)) id (fun begun_21 => (y_join (ΓJ := fun s2 : (List (Str × (Int × Int))) => [.fz (tyO (He.ga K "Machine") ns_Machine0 (Row.cons tyS (Row.cons tyI (Row.cons (tyP (tyP (tyT (Row.cons tyI (Row.one tyI))))) (Row.cons tyI (Row.cons tyI (Row.one tyI))))))) y, .fz (tyD (tyT (Row.cons tyI (Row.one tyI)))) s2, .no, .no, .no, .no, .no, .no, .no, .no, .no, .no]) begun_21 (Wk.cv (.same (.same (.no (.no (.same (.same (.same (.same (.same (.same (.same (.same .nil))))))))))))) rfl id)))))))) (fun s2 => by exact (y_ret (Γ := [.fz (tyO (He.ga K "Machine") ns_Machine0 (Row.cons tyS (Row.cons tyI (Row.cons (tyP (tyP (tyT (Row.cons tyI (Row.one tyI))))) (Row.cons tyI (Row.cons tyI (Row.one tyI))))))) y, .fz (tyD (tyT (Row.cons tyI (Row.one tyI)))) s2, .no, .no, .no, .no, .no, .no, .no, .no, .no, .no]) (xe_dn (xd_dcDm (f := fun x22 => x22.1) (g := fun x22 => x22.2.1) (K := tyS) (B := tyI) (ΓT := fun (x22 : Str × (Int × Int)) => [.fz (tyO (He.ga K "Machine") ns_Machine0 (Row.cons tyS (Row.cons tyI (Row.cons (tyP (tyP (tyT (Row.cons tyI (Row.one tyI))))) (Row.cons tyI (Row.cons tyI (Row.one tyI))))))) y, .fz (tyD (tyT (Row.cons tyI (Row.one tyI)))) s2, .fz tyI x22.2.2, .no, .fz tyS x22.1, .fz tyI x22.2.1, .no, .no, .no, .no, .no, .no]) [("text", 4), ("weight", 5), ("_", 2)] rfl sc_Machine_all_weights.nd (path_name 1 rfl rfl (.inl rfl)) wk_items (by show blkC ["self", "begun", "_", "longer", "text", "weight", "state", "row", "times", "letter", "part", "target"] (defScope s_Machine_all_weights) _ [("text", 4), ("weight", 5), ("_", 2)] = true; decide +kernel) (fun _ _ _ _ _ => (xg_tup rfl (xgs_cons (xg_name 4 sc_Machine_all_weights.nd rfl (.inl rfl)) (fun _ => (xgs_one (xg_tup rfl (xgs_cons (xg_name 5 sc_Machine_all_weights.nd rfl (.inl rfl)) (fun _ => (xgs_one (xg_name 2 sc_Machine_all_weights.nd rfl (.inl rfl))))))))))) (by decide) (fun _ _ _ _ _ x22 => (xe_var 4 rfl rfl (.inl rfl))) (fun _ _ _ _ _ x22 => (xe_var 5 rfl rfl (.inl rfl))) rfl rfl)) id)))))))
theorem ok_Machine_all_weights (T : Txt K mg) : CleM P w K mg base (He.ga K "Machine") "all_weights" 1 (spP (Row.one (tyO (He.ga K "Machine") ns_Machine0 (Row.cons tyS (Row.cons tyI (Row.cons (tyP (tyP (tyT (Row.cons tyI (Row.one tyI))))) (Row.cons tyI (Row.cons tyI (Row.one tyI)))))))) (tyD tyI) (w_Machine_all_weights)) :=
  let ⟨_, F⟩ := T.f_Machine_all_weights
  ⟨_, _, _, fo_Machine_all_weights T F, T.m_Machine_all_weights, F.bindsN (fun _ _ _ _ _ _ us hl => match us, hl with | [_], _ => rfl)⟩
/-! greatest_divisor -/
theorem sc_greatest_divisor : FnScope ["a", "b"] ["a", "b"] (defScope s_greatest_divisor) := ⟨rfl, rfl, rfl, by decide +kernel, rfl, by decide +kernel, by decide +kernel⟩
def w_greatest_divisor (y : Int × Int) (k : Int → Prop) : Prop :=
  (Jn (fun s1 : Int × Int => k s1.1) fun bk3 => WWhile (y.1, y.2) (fun (s1 : Int × Int) kk4 => kk4 (decide ((0 : Int) < s1.2))) (fun (nx2 : (Int × Int) → Prop) (s1 : Int × Int) => 0 < s1.2 ∧ ((Bnd s1.2 fun a_5 => (Bnd (s1.1 % s1.2) fun b_6 => nx2 (a_5, b_6))))) bk3)
theorem fo_greatest_divisor {fd : FuncData} (T : Txt K mg) (F : FunD K "greatest_divisor" "greatest_divisor" (defArgs s_greatest_divisor) (defBody s_greatest_divisor) (defScope s_greatest_divisor) [] [] (He.fAd K ("greatest_divisor", none)) fd) : FnOk P w K mg base CX0 1 (He.fAd K ("greatest_divisor", none)) fd ["a", "b"] (spP (Row.cons tyI (Row.one tyI)) tyI (w_greatest_divisor)) :=
  fn_P (Γ0 := fun y => [.fz tyI y.1, .fz tyI y.2]) (kn := fun _ => False) F sc_greatest_divisor rfl (Nat.le_of_ble_eq_true rfl) (rsl_cons rsl_one) (fun _ => rfl) (fun _ _ h => h.elim) (fun cdv A outer s H E hr y k => (y_while (Γ := [.fz tyI y.1, .fz tyI y.2]) (fun s1 : Int × Int => [.fz tyI s1.1, .fz tyI s1.2]) (y.1, y.2) PassesOwn.never (Cv.refl _) (fun s1 => (xt_gt (xe_var 1 rfl rfl (.inl rfl)) xe_int)) id (fun bk3 nx2 s1 => by exact (y_par (Γ := [.fz tyI s1.1, .fz tyI s1.2]) 0 1 sc_greatest_divisor.nd rfl rfl (by decide) rfl rfl rfl (xe_var 1 rfl rfl (.inl rfl)) (xe_mod (xe_var 0 rfl rfl (.inl rfl)) (xe_var 1 rfl rfl (.inl rfl))) rfl id (fun a_5 b_6 => (y_join (ΓJ := fun s1 : Int × Int => [.fz tyI s1.1, .fz tyI s1.2]) (a_5, b_6) (Cv.refl _) rfl id)))) (fun s1 => by exact (y_ret (Γ := [.fz tyI s1.1, .fz tyI s1.2]) (xe_var 0 rfl rfl (.inl rfl)) id))))
theorem ok_greatest_divisor (T : Txt K mg) : Cle P w K mg base "greatest_divisor" 1 (spP (Row.cons tyI (Row.one tyI)) tyI (w_greatest_divisor)) :=
  let ⟨_, F⟩ := T.f_greatest_divisor
  ⟨_, _, _, fo_greatest_divisor T F, T.g_greatest_divisor, F.kp, F.bindsN (fun _ _ _ _ _ _ us hl => match us, hl with | [_, _], _ => rfl)⟩
/-! least_multiple -/
theorem sc_least_multiple : FnScope ["a", "b"] ["a", "b"] (defScope s_least_multiple) := ⟨rfl, rfl, rfl, by decide +kernel, rfl, by decide +kernel, by decide +kernel⟩
def w_least_multiple (y : Int × Int) (k : Int → Prop) : Prop :=
  w_greatest_divisor (y.1, y.2) (fun r1 => CDivW y.1 r1 ∧ (CMulW (y.1 / r1) y.2 ∧ (k ((y.1 / r1) * y.2))))
theorem fo_least_multiple {fd : FuncData} (T : Txt K mg) (F : FunD K "least_multiple" "least_multiple" (defArgs s_least_multiple) (defBody s_least_multiple) (defScope s_least_multiple) [] [] (He.fAd K ("least_multiple", none)) fd) : FnOk P w K mg base CX0 2 (He.fAd K ("least_multiple", none)) fd ["a", "b"] (spP (Row.cons tyI (Row.one tyI)) tyI (w_least_multiple)) :=
  fn_P (Γ0 := fun y => [.fz tyI y.1, .fz tyI y.2]) (kn := fun _ => False) F sc_least_multiple rfl (Nat.le_of_ble_eq_true rfl) (rsl_cons rsl_one) (fun _ => rfl) (fun _ _ h => h.elim) (fun cdv A outer s H E hr y k => (y_ret (Γ := [.fz tyI y.1, .fz tyI y.2]) (xe_mul (xe_fdiv (xe_var 0 rfl rfl (.inl rfl)) (xe_call (ok_greatest_divisor T) (hr.mono (by decide)) (xa_cons (xe_var 0 rfl rfl (.inl rfl)) (xa_one (xe_var 1 rfl rfl (.inl rfl)))))) (xe_var 1 rfl rfl (.inl rfl))) id))
theorem ok_least_multiple (T : Txt K mg) : Cle P w K mg base "least_multiple" 2 (spP (Row.cons tyI (Row.one tyI)) tyI (w_least_multiple)) :=
  let ⟨_, F⟩ := T.f_least_multiple
  ⟨_, _, _, fo_least_multiple T F, T.g_least_multiple, F.kp, F.bindsN (fun _ _ _ _ _ _ us hl => match us, hl with | [_, _], _ => rfl)⟩
/-! power -/
theorem sc_power : FnScope ["a", "n", "found", "_"] ["a", "n"] (defScope s_power) := ⟨rfl, rfl, rfl, by decide +kernel, rfl, by decide +kernel, by decide +kernel⟩
def w_power (y : Int × Int) (k : Int → Prop) : Prop :=
  (Bnd (1 : Int) fun found_1 => (-(2 ^ 62) ≤ y.2 ∧ y.2 < 2 ^ 62) ∧ (WFor (rng 0 (y.2).toNat) found_1 (fun (nx4 : Int → Prop) (s2 : Int) x3 => CMulW s2 y.1 ∧ ((Bnd (s2 * y.1) fun found_6 => nx4 found_6))) (fun (s2 : Int) => k s2)))
theorem fo_power {fd : FuncData} (T : Txt K mg) (F : FunD K "power" "power" (defArgs s_power) (defBody s_power) (defScope s_power) [] [] (He.fAd K ("power", none)) fd) : FnOk P w K mg base CX0 1 (He.fAd K ("power", none)) fd ["a", "n"] (spP (Row.cons tyI (Row.one tyI)) tyI (w_power)) :=
  fn_P (Γ0 := fun y => [.fz tyI y.1, .fz tyI y.2, .no, .no]) (kn := fun _ => False) F sc_power rfl (Nat.le_of_ble_eq_true rfl) (rsl_cons rsl_one) (fun _ => rfl) (fun _ _ h => h.elim) (fun cdv A outer s H E hr y k => (y_set (Γ := [.fz tyI y.1, .fz tyI y.2, .no, .no]) 2 sc_power.nd rfl (.inl rfl) xe_int id (fun found_1 => (y_for (Γ := [.fz tyI y.1, .fz tyI y.2, .fz tyI found_1, .no]) (ΓT := fun (s2 : Int) (x3 : Int) => [.fz tyI y.1, .fz tyI y.2, .fz tyI s2, .fz tyI x3]) (fun s2 : Int => [.fz tyI y.1, .fz tyI y.2, .fz tyI s2, .no]) found_1 PassesOwn.never rfl (xi_range T.l_range (xe_var 1 rfl rfl (.inl rfl))) (Cv.refl _) (fun s2 => (xg_name 3 sc_power.nd rfl (.inl rfl))) id (fun nx4 s2 x3 => by exact (y_set (Γ := [.fz tyI y.1, .fz tyI y.2, .fz tyI s2, .fz tyI x3]) 2 sc_power.nd rfl (.inl rfl) (xe_mul (xe_var 2 rfl rfl (.inl rfl)) (xe_var 0 rfl rfl (.inl rfl))) id (fun found_6 => (y_join (ΓJ := fun s2 : Int => [.fz tyI y.1, .fz tyI y.2, .fz tyI s2, .no]) found_6 (Wk.cv (.same (.same (.same (.no .nil))))) rfl id)))) (fun s2 => by exact (y_ret (Γ := [.fz tyI y.1, .fz tyI y.2, .fz tyI s2, .no]) (xe_var 2 rfl rfl (.inl rfl)) id))))))
theorem ok_power (T : Txt K mg) : Cle P w K mg base "power" 1 (spP (Row.cons tyI (Row.one tyI)) tyI (w_power)) :=
  let ⟨_, F⟩ := T.f_power
  ⟨_, _, _, fo_power T F, T.g_power, F.kp, F.bindsN (fun _ _ _ _ _ _ us hl => match us, hl with | [_, _], _ => rfl)⟩
/-! Machine.__init__ -/
theorem sc_Machine___init__ : FnScope ["self", "alphabet", "start", "rows", "length", "row", "weight", "state", "_"] ["self", "alphabet", "start", "rows", "length"] (defScope s_Machine___init__) := ⟨rfl, rfl, rfl, by decide +kernel, rfl, by decide +kernel, by decide +kernel⟩
def w_Machine___init__ (y : Str × Int × (List (List (Int × Int))) × Int) (k : (Str × Int × (List (List (Int × Int))) × Int × Int × Int × (List (Str × (Int)))) → Prop) : Prop :=
  (Bnd y.1 fun y1 => (Bnd y.2.1 fun y2 => WLc y.2.2.1 (fun x3 kk5 => kk5 true) (fun x3 kk6 => (x3).length < sizeLine ∧ (kk6 (x3.map fun x4 => (x4.1, x4.2)))) (fun r7 => (Bnd r7 fun y8 => (Bnd y.2.2.2 fun y9 => (Bnd (1 : Int) fun y10 => WFor y8 (y1, y2, y8, y9, y10) (fun (nx13 : ((Str × Int × (List (List (Int × Int))) × Int × Int)) → Prop) (s11 : (Str × Int × (List (List (Int × Int))) × Int × Int)) x12 => (x12).length < sizeLine ∧ (w_least_multiple (s11.2.2.2.2, ((x12.map fun x15 => x15.1)).sum) (fun r16 => (Bnd r16 fun y17 => nx13 (s11.1, s11.2.1, s11.2.2.1, s11.2.2.2.1, y17))))) (fun (s11 : (Str × Int × (List (List (Int × Int))) × Int × Int)) => w_power (s11.2.2.2.2, y.2.2.2) (fun r18 => (Bnd r18 fun y19 => w_Machine_all_weights (s11.1, s11.2.1, s11.2.2.1, s11.2.2.2.1, s11.2.2.2.2, y19) (fun r20 => (Bnd r20 fun y21 => k (s11.1, s11.2.1, s11.2.2.1, s11.2.2.2.1, s11.2.2.2.2, y19, y21))))))))))))
theorem fo_Machine___init__ {fd : FuncData} (T : Txt K mg) (F : FunD K "__init__" "Machine.__init__" (defArgs s_Machine___init__) (defBody s_Machine___init__) (defScope s_Machine___init__) [] [] (He.fAd K ("Machine", some "__init__")) fd) : FnOk P w K mg base CX0 3 (He.fAd K ("Machine", some "__init__")) fd ["self", "alphabet", "start", "rows", "length"] (spI (He.ga K "Machine") ns_Machine (Row.cons tyS (Row.cons tyI (Row.cons (tyL (tyL (tyT (Row.cons tyI (Row.one tyI))))) (Row.one tyI)))) (Row.cons tyS (Row.cons tyI (Row.cons (tyP (tyP (tyT (Row.cons tyI (Row.one tyI))))) (Row.cons tyI (Row.cons tyI (Row.cons tyI (Row.one (tyD tyI)))))))) (w_Machine___init__)) :=
  fn_I (Γ0 := fun p y => [.ob p (He.ga K "Machine") [], .fz tyS y.1, .fz tyI y.2.1, .fz (tyL (tyL (tyT (Row.cons tyI (Row.one tyI))))) y.2.2.1, .fz tyI y.2.2.2, .no, .no, .no, .no]) F sc_Machine___init__ rfl (Nat.le_of_ble_eq_true rfl) (rsl_cons (rsl_cons (rsl_cons rsl_one))) (fun _ _ => rfl) (fun cdv A outer s H E hr p y k => (y_fldNew (Γ := [.ob p (He.ga K "Machine") [], .fz tyS y.1, .fz tyI y.2.1, .fz (tyL (tyL (tyT (Row.cons tyI (Row.one tyI))))) y.2.2.1, .fz tyI y.2.2.2, .no, .no, .no, .no]) 0 [] rfl rfl (.inl rfl) T.c_Machine T.n_Machine_alphabet rfl (by decide +kernel) (xe_var 1 rfl rfl (.inl rfl)) id (fun y1 => (y_fldNew (Γ := [.ob p (He.ga K "Machine") [("alphabet", ⟨tyS, y1⟩)], .fz tyS y.1, .fz tyI y.2.1, .fz (tyL (tyL (tyT (Row.cons tyI (Row.one tyI))))) y.2.2.1, .fz tyI y.2.2.2, .no, .no, .no, .no]) 0 ["alphabet"] rfl rfl (.inl rfl) T.c_Machine T.n_Machine_start rfl (by decide +kernel) (xe_var 2 rfl rfl (.inl rfl)) id (fun y2 => (y_fldNew (Γ := [.ob p (He.ga K "Machine") [("alphabet", ⟨tyS, y1⟩), ("start", ⟨tyI, y2⟩)], .fz tyS y.1, .fz tyI y.2.1, .fz (tyL (tyL (tyT (Row.cons tyI (Row.one tyI))))) y.2.2.1, .fz tyI y.2.2.2, .no, .no, .no, .no]) 0 ["alphabet", "start"] rfl rfl (.inl rfl) T.c_Machine T.n_Machine_rows rfl (by decide +kernel) (xe_tupleL T.l_tuple (xl_of (xe_f (xf_c (xc_lc (B := (tyP (tyT (Row.cons tyI (Row.one tyI))))) (ΓT := fun (x3 : List (Int × Int)) => [.ob p (He.ga K "Machine") [("alphabet", ⟨tyS, y1⟩), ("start", ⟨tyI, y2⟩)], .fz tyS y.1, .fz tyI y.2.1, .fz (tyL (tyL (tyT (Row.cons tyI (Row.one tyI))))) y.2.2.1, .fz tyI y.2.2.2, .fz (tyL (tyT (Row.cons tyI (Row.one tyI)))) x3, .no, .no, .no]) [("row", 5)] rfl sc_Machine___init__.nd (xi_list (xe_var 3 rfl rfl (.inl rfl))) (by show blkC ["self", "alphabet", "start", "rows", "length", "row", "weight", "state", "_"] (defScope s_Machine___init__) _ [("row", 5)] = true; decide +kernel) (fun _ _ _ _ _ => (xg_name 5 sc_Machine___init__.nd rfl (.inl rfl))) (by decide) (fun _ _ _ _ _ x3 => xts_nil) (fun _ _ _ _ _ x3 => (xe_tupleL T.l_tuple (xl_of (xe_f (xf_c (xc_lcm (f := fun x4 => (x4.1, x4.2)) (B := (tyT (Row.cons tyI (Row.one tyI)))) (ΓT := fun (x4 : Int × Int) => [.ob p (He.ga K "Machine") [("alphabet", ⟨tyS, y1⟩), ("start", ⟨tyI, y2⟩)], .fz tyS y.1, .fz tyI y.2.1, .fz (tyL (tyL (tyT (Row.cons tyI (Row.one tyI))))) y.2.2.1, .fz tyI y.2.2.2, .fz (tyL (tyT (Row.cons tyI (Row.one tyI)))) x3, .fz tyI x4.1, .fz tyI x4.2, .no]) [("weight", 6), ("state", 7)] rfl sc_Machine___init__.nd (xi_list (xe_var 5 rfl rfl (.inl rfl))) (by kernel_rfl) (fun _ _ _ _ _ => (xg_tup rfl (xgs_cons (xg_name 6 sc_Machine___init__.nd rfl (.inl rfl)) (fun _ => (xgs_one (xg_name 7 sc_Machine___init__.nd rfl (.inl rfl))))))) (by decide) (fun _ _ _ _ _ x4 => (xe_tup (xa_cons (xe_var 6 rfl rfl (.inl rfl)) (xa_one (xe_var 7 rfl rfl (.inl rfl)))))) rfl))))))))))) id (fun y8 => (y_fldNew (Γ := [.ob p (He.ga K "Machine") [("alphabet", ⟨tyS, y1⟩), ("start", ⟨tyI, y2⟩), ("rows", ⟨(tyP (tyP (tyT (Row.cons tyI (Row.one tyI))))), y8⟩)], .fz tyS y.1, .fz tyI y.2.1, .fz (tyL (tyL (tyT (Row.cons tyI (Row.one tyI))))) y.2.2.1, .fz tyI y.2.2.2, .no, .no, .no, .no]) 0 ["alphabet", "start", "rows"] rfl rfl (.inl rfl) T.c_Machine T.n_Machine_length rfl (by decide +kernel) (xe_var 4 rfl rfl (.inl rfl)) id (fun y9 => (y_fldNew (Γ := [.ob p (He.ga K "Machine") [("alphabet", ⟨tyS, y1⟩), ("start", ⟨tyI, y2⟩), ("rows", ⟨(tyP (tyP (tyT (Row.cons tyI (Row.one tyI))))), y8⟩), ("length", ⟨tyI, y9⟩)], .fz tyS y.1, .fz tyI y.2.1, .fz (tyL (tyL (tyT (Row.cons tyI (Row.one tyI))))) y.2.2.1, .fz tyI y.2.2.2, .no, .no, .no, .no]) 0 ["alphabet", "start", "rows", "length"] rfl rfl (.inl rfl) T.c_Machine T.n_Machine_unit rfl (by decide +kernel) xe_int id (fun y10 => (y_for (Γ := [.ob p (He.ga K "Machine") [("alphabet", ⟨tyS, y1⟩), ("start", ⟨tyI, y2⟩), ("rows", ⟨(tyP (tyP (tyT (Row.cons tyI (Row.one tyI))))), y8⟩), ("length", ⟨tyI, y9⟩), ("unit", ⟨tyI, y10⟩)], .fz tyS y.1, .fz tyI y.2.1, .fz (tyL (tyL (tyT (Row.cons tyI (Row.one tyI))))) y.2.2.1, .fz tyI y.2.2.2, .no, .no, .no, .no]) (ΓT := fun (s11 : (Str × Int × (List (List (Int × Int))) × Int × Int)) (x12 : List (Int × Int)) => [.ob p (He.ga K "Machine") [("alphabet", ⟨tyS, s11.1⟩), ("start", ⟨tyI, s11.2.1⟩), ("rows", ⟨(tyP (tyP (tyT (Row.cons tyI (Row.one tyI))))), s11.2.2.1⟩), ("length", ⟨tyI, s11.2.2.2.1⟩), ("unit", ⟨tyI, s11.2.2.2.2⟩)], .fz tyS y.1, .fz tyI y.2.1, .fz (tyL (tyL (tyT (Row.cons tyI (Row.one tyI))))) y.2.2.1, .fz tyI y.2.2.2, .fz (tyP (tyT (Row.cons tyI (Row.one tyI)))) x12, .no, .no, .no]) (fun s11 : (Str × Int × (List (List (Int × Int))) × Int × Int) => [.ob p (He.ga K "Machine") [("alphabet", ⟨tyS, s11.1⟩), ("start", ⟨tyI, s11.2.1⟩), ("rows", ⟨(tyP (tyP (tyT (Row.cons tyI (Row.one tyI))))), s11.2.2.1⟩), ("length", ⟨tyI, s11.2.2.2.1⟩), ("unit", ⟨tyI, s11.2.2.2.2⟩)], .fz tyS y.1, .fz tyI y.2.1, .fz (tyL (tyL (tyT (Row.cons tyI (Row.one tyI))))) y.2.2.1, .fz tyI y.2.2.2, .no, .no, .no, .no]) (y1, y2, y8, y9, y10) PassesOwn.never rfl (xi_tup (xe_fldOb 0 2 rfl rfl (.inl rfl) T.c_Machine T.n_Machine_rows (show List.Nodup [("alphabet" : Str), ("start" : Str), ("rows" : Str), ("length" : Str), ("unit" : Str)] from by decide +kernel) rfl)) (Cv.refl _) (fun s11 => (xg_name 5 sc_Machine___init__.nd rfl (.inl rfl))) id (fun nx13 s11 x12 => by exact (y_fldSet (Γ := [.ob p (He.ga K "Machine") [("alphabet", ⟨tyS, s11.1⟩), ("start", ⟨tyI, s11.2.1⟩), ("rows", ⟨(tyP (tyP (tyT (Row.cons tyI (Row.one tyI))))), s11.2.2.1⟩), ("length", ⟨tyI, s11.2.2.2.1⟩), ("unit", ⟨tyI, s11.2.2.2.2⟩)], .fz tyS y.1, .fz tyI y.2.1, .fz (tyL (tyL (tyT (Row.cons tyI (Row.one tyI))))) y.2.2.1, .fz tyI y.2.2.2, .fz (tyP (tyT (Row.cons tyI (Row.one tyI)))) x12, .no, .no, .no]) 0 4 rfl rfl (.inl rfl) T.c_Machine T.n_Machine_unit rfl (show List.Nodup [("alphabet" : Str), ("start" : Str), ("rows" : Str), ("length" : Str), ("unit" : Str)] from by decide +kernel) (Nat.le_of_ble_eq_true rfl) (xe_call (ok_least_multiple T) (hr.mono (by decide)) (xa_cons (xe_fldOb 0 4 rfl rfl (.inl rfl) T.c_Machine T.n_Machine_unit (show List.Nodup [("alphabet" : Str), ("start" : Str), ("rows" : Str), ("length" : Str), ("unit" : Str)] from by decide +kernel) rfl) (xa_one (xe_sum rfl T.l_sum (xl_of (xe_f (xf_c (xc_lcm (f := fun x15 => x15.1) (B := tyI) (ΓT := fun (x15 : Int × Int) => [.ob p (He.ga K "Machine") [("alphabet", ⟨tyS, s11.1⟩), ("start", ⟨tyI, s11.2.1⟩), ("rows", ⟨(tyP (tyP (tyT (Row.cons tyI (Row.one tyI))))), s11.2.2.1⟩), ("length", ⟨tyI, s11.2.2.2.1⟩), ("unit", ⟨tyI, s11.2.2.2.2⟩)], .fz tyS y.1, .fz tyI y.2.1, .fz (tyL (tyL (tyT (Row.cons tyI (Row.one tyI))))) y.2.2.1, .fz tyI y.2.2.2, .fz (tyP (tyT (Row.cons tyI (Row.one tyI)))) x12, .fz tyI x15.1, .no, .fz tyI x15.2]) [("weight", 6), ("_", 8)] rfl sc_Machine___init__.nd (xi_tup (xe_var 5 rfl rfl (.inl rfl))) (by show blkC ["self", "alphabet", "start", "rows", "length", "row", "weight", "state", "_"] (defScope s_Machine___init__) _ [("weight", 6), ("_", 8)] = true; decide +kernel) (fun _ _ _ _ _ => (xg_tup rfl (xgs_cons (xg_name 6 sc_Machine___init__.nd rfl (.inl rfl)) (fun _ => (xgs_one (xg_name 8 sc_Machine___init__.nd rfl (.inl rfl))))))) (by decide) (fun _ _ _ _ _ x15 => (xe_var 6 rfl rfl (.inl rfl))) rfl)))))))) id (fun y17 => (y_join (ΓJ := fun s11 : (Str × Int × (List (List (Int × Int))) × Int × Int) => [.ob p (He.ga K "Machine") [("alphabet", ⟨tyS, s11.1⟩), ("start", ⟨tyI, s11.2.1⟩), ("rows", ⟨(tyP (tyP (tyT (Row.cons tyI (Row.one tyI))))), s11.2.2.1⟩), ("length", ⟨tyI, s11.2.2.2.1⟩), ("unit", ⟨tyI, s11.2.2.2.2⟩)], .fz tyS y.1, .fz tyI y.2.1, .fz (tyL (tyL (tyT (Row.cons tyI (Row.one tyI))))) y.2.2.1, .fz tyI y.2.2.2, .no, .no, .no, .no]) (s11.1, s11.2.1, s11.2.2.1, s11.2.2.2.1, y17) (Wk.cv (.same (.same (.same (.same (.same (.no (.same (.same (.same .nil)))))))))) rfl id)))) (fun s11 => by exact (y_fldNew (Γ := [.ob p (He.ga K "Machine") [("alphabet", ⟨tyS, s11.1⟩), ("start", ⟨tyI, s11.2.1⟩), ("rows", ⟨(tyP (tyP (tyT (Row.cons tyI (Row.one tyI))))), s11.2.2.1⟩), ("length", ⟨tyI, s11.2.2.2.1⟩), ("unit", ⟨tyI, s11.2.2.2.2⟩)], .fz tyS y.1, .fz tyI y.2.1, .fz (tyL (tyL (tyT (Row.cons tyI (Row.one tyI))))) y.2.2.1, .fz tyI y.2.2.2, .no, .no, .no, .no]) 0 ["alphabet", "start", "rows", "length", "unit"] rfl rfl (.inl rfl) T.c_Machine T.n_Machine_whole rfl (by decide +kernel) (xe_call (ok_power T) (hr.mono (by decide)) (xa_cons (xe_fldOb 0 4 rfl rfl (.inl rfl) T.c_Machine T.n_Machine_unit (show List.Nodup [("alphabet" : Str), ("start" : Str), ("rows" : Str), ("length" : Str), ("unit" : Str)] from by decide +kernel) rfl) (xa_one (xe_var 4 rfl rfl (.inl rfl))))) id (fun y19 => (y_fldNew (Γ := [.ob p (He.ga K "Machine") [("alphabet", ⟨tyS, s11.1⟩), ("start", ⟨tyI, s11.2.1⟩), ("rows", ⟨(tyP (tyP (tyT (Row.cons tyI (Row.one tyI))))), s11.2.2.1⟩), ("length", ⟨tyI, s11.2.2.2.1⟩), ("unit", ⟨tyI, s11.2.2.2.2⟩), ("whole", ⟨tyI, y19⟩)], .fz tyS y.1, .fz tyI y.2.1, .fz (tyL (tyL (tyT (Row.cons tyI (Row.one tyI))))) y.2.2.1, .fz tyI y.2.2.2, .no, .no, .no, .no]) 0 ["alphabet", "start", "rows", "length", "unit", "whole"] rfl rfl (.inl rfl) T.c_Machine T.n_Machine_weights rfl (by decide +kernel) (xe_methOb0 0 rfl rfl (.inl rfl) rfl (rf_cons (rf_cons (rf_cons (rf_cons (rf_cons rf_one))))) T.c_Machine (ok_Machine_all_weights T) (hr.mono (by decide)) (show ("all_weights" : Str) ∉ [("alphabet" : Str), ("start" : Str), ("rows" : Str), ("length" : Str), ("unit" : Str), ("whole" : Str)] from by decide +kernel)) id (fun y21 => (y_initEnd (Γ := [.ob p (He.ga K "Machine") [("alphabet", ⟨tyS, s11.1⟩), ("start", ⟨tyI, s11.2.1⟩), ("rows", ⟨(tyP (tyP (tyT (Row.cons tyI (Row.one tyI))))), s11.2.2.1⟩), ("length", ⟨tyI, s11.2.2.2.1⟩), ("unit", ⟨tyI, s11.2.2.2.2⟩), ("whole", ⟨tyI, y19⟩), ("weights", ⟨(tyD tyI), y21⟩)], .fz tyS y.1, .fz tyI y.2.1, .fz (tyL (tyL (tyT (Row.cons tyI (Row.one tyI))))) y.2.2.1, .fz tyI y.2.2.2, .no, .no, .no, .no]) (s11.1, s11.2.1, s11.2.2.1, s11.2.2.2.1, s11.2.2.2.2, y19, y21) rfl rfl (rf_cons (rf_cons (rf_cons (rf_cons (rf_cons (rf_cons rf_one)))))) rfl id))))))))))))))))))
theorem ok_Machine___init__ (T : Txt K mg) : CleI P w K mg base "Machine" (He.ga K "Machine") 3 (spI (He.ga K "Machine") ns_Machine (Row.cons tyS (Row.cons tyI (Row.cons (tyL (tyL (tyT (Row.cons tyI (Row.one tyI))))) (Row.one tyI)))) (Row.cons tyS (Row.cons tyI (Row.cons (tyP (tyP (tyT (Row.cons tyI (Row.one tyI))))) (Row.cons tyI (Row.cons tyI (Row.cons tyI (Row.one (tyD tyI)))))))) (w_Machine___init__)) :=
  let ⟨_, F⟩ := T.f_Machine___init__
  ⟨_, _, _, fo_Machine___init__ T F, T.k_Machine, T.g_Machine, F.bindsN (fun _ _ _ _ _ _ us hl => match us, hl with | [_, _, _, _, _], _ => rfl)⟩
/-! _law_signs -/
theorem sc_law_signs : FnScope [] [] (defScope s_law_signs) := ⟨rfl, rfl, rfl, by decide +kernel, rfl, by decide +kernel, by decide +kernel⟩
def w_law_signs (y : Unit) (k : Str → Prop) : Prop :=
  k (" !\"#$&'()*+,-./0123456789:;<=>?@ABCDEFGHIJKLMNOPQRSTUVWXYZ[\\]^_`abcdefghijklmnopqrstuvwxyz{|}~" : Str)
theorem fo_law_signs {fd : FuncData} (T : Txt K mg) (F : FunD K "_law_signs" "_law_signs" (defArgs s_law_signs) (defBody s_law_signs) (defScope s_law_signs) [] [] (He.fAd K ("_law_signs", none)) fd) : FnOk P w K mg base CX0 1 (He.fAd K ("_law_signs", none)) fd [] (spP Row.nil tyS (w_law_signs)) :=
  fn_P (Γ0 := fun y => []) (kn := fun _ => False) F sc_law_signs rfl (Nat.le_of_ble_eq_true rfl) rsl_nil (fun _ => rfl) (fun _ _ h => h.elim) (fun cdv A outer s H E hr y k => (y_ret (Γ := []) xe_str id))
theorem ok_law_signs (T : Txt K mg) : Cle P w K mg base "_law_signs" 1 (spP Row.nil tyS (w_law_signs)) :=
  let ⟨_, F⟩ := T.f_law_signs
  ⟨_, _, _, fo_law_signs T F, T.g_law_signs, F.kp, F.bindsN (fun _ _ _ _ _ _ us hl => match us, hl with | [], _ => rfl)⟩
/-! _law_text -/
theorem sc_law_text : FnScope ["state", "most", "kind", "size", "signs", "text", "k"] ["state", "most"] (defScope s_law_text) := ⟨rfl, rfl, rfl, by decide +kernel, rfl, by decide +kernel, by decide +kernel⟩
def w_law_text (y : Int) (k : Str → Prop) : Prop :=
  w_law_draw (4 : Int) (fun r1 => (Bnd r1 fun kind_2 => w_law_draw (4 : Int) (fun r3 => (Bnd r3 fun size_4 => (Bnd ("ab" : Str) fun signs_5 => (Jn (fun s6 : Str => (Jn (fun s7 : Str × Int => (Bnd ("" : Str) fun text_8 => (-(2 ^ 62) ≤ (min s7.2 y) ∧ (min s7.2 y) < 2 ^ 62) ∧ (WFor (rng 0 ((min s7.2 y)).toNat) text_8 (fun (nx11 : Str → Prop) (s9 : Str) x10 => (s7.1).length ≤ sizeLine ∧ (w_law_draw ((s7.1).length : Int) (fun r13 => (s7.1).length ≤ sizeLine ∧ ∃ c14, atI (s7.1).cps.toList r13 = some c14 ∧ ((s9).length + ((⟨#[c14]⟩ : Str)).length ≤ sizeLine ∧ ((Bnd (s9 ++ (⟨#[c14]⟩ : Str)) fun text_15 => nx11 text_15)))))) (fun (s9 : Str) => k s9)))) fun j16 => if (decide (kind_2 = (3 : Int))) = true then (w_law_signs () (fun r17 => (Bnd r17 fun signs_18 => w_law_draw (y + (1 : Int)) (fun r19 => (Bnd r19 fun size_20 => j16 (signs_18, size_20)))))) else (j16 (s6, size_4)))) fun j21 => if (decide (kind_2 = (2 : Int))) = true then (Bnd ("abAB01" : Str) fun signs_22 => j21 signs_22) else (j21 signs_5)))))))
theorem fo_law_text {fd : FuncData} (T : Txt K mg) (F : FunD K "_law_text" "_law_text" (defArgs s_law_text) (defBody s_law_text) (defScope s_law_text) [] [] (He.fAd K ("_law_text", none)) fd) : FnOk P w K mg base CX0 2 (He.fAd K ("_law_text", none)) fd ["state", "most"] (spS (zmR Rst Ist) (Row.one tyI) tyS (w_law_text)) :=
  fn_S (Γ0 := fun y => [.st, .fz tyI y, .no, .no, .no, .no, .no]) (kn := fun _ => False) F sc_law_text rfl (Nat.le_of_ble_eq_true rfl) rsl_one (fun _ => rfl) (fun _ _ h => h.elim) (fun cdv A outer s H E hr st y k => (y_set (Γ := [.st, .fz tyI y, .no, .no, .no, .no, .no]) 2 sc_law_text.nd rfl (.inl rfl) (xe_callS 0 rfl rfl (.inl rfl) (ok_law_draw T) (hr.mono (by decide)) (xa_one xe_int)) id (fun kind_2 => (y_set (Γ := [.st, .fz tyI y, .fz tyI kind_2, .no, .no, .no, .no]) 3 sc_law_text.nd rfl (.inl rfl) (xe_callS 0 rfl rfl (.inl rfl) (ok_law_draw T) (hr.mono (by decide)) (xa_one xe_int)) id (fun size_4 => (y_set (Γ := [.st, .fz tyI y, .fz tyI kind_2, .fz tyI size_4, .no, .no, .no]) 4 sc_law_text.nd rfl (.inl rfl) xe_str id (fun signs_5 => (y_if (Γ := [.st, .fz tyI y, .fz tyI kind_2, .fz tyI size_4, .fz tyS signs_5, .no, .no]) (fun s6 : Str => [.st, .fz tyI y, .fz tyI kind_2, .fz tyI size_4, .fz tyS s6, .no, .no]) (xt_eq (xe_var 2 rfl rfl (.inl rfl)) xe_int) id (fun j21 => by exact (y_set (Γ := [.st, .fz tyI y, .fz tyI kind_2, .fz tyI size_4, .fz tyS signs_5, .no, .no]) 4 sc_law_text.nd rfl (.inl rfl) xe_str id (fun signs_22 => (y_join (ΓJ := fun s6 : Str => [.st, .fz tyI y, .fz tyI kind_2, .fz tyI size_4, .fz tyS s6, .no, .no]) signs_22 (Cv.refl _) rfl id)))) (fun j21 => by exact (y_join (ΓJ := fun s6 : Str => [.st, .fz tyI y, .fz tyI kind_2, .fz tyI size_4, .fz tyS s6, .no, .no]) signs_5 (Cv.refl _) rfl id)) (fun s6 => by exact (y_if (Γ := [.st, .fz tyI y, .fz tyI kind_2, .fz tyI size_4, .fz tyS s6, .no, .no]) (fun s7 : Str × Int => [.st, .fz tyI y, .fz tyI kind_2, .fz tyI s7.2, .fz tyS s7.1, .no, .no]) (xt_eq (xe_var 2 rfl rfl (.inl rfl)) xe_int) id (fun j16 => by exact (y_set (Γ := [.st, .fz tyI y, .fz tyI kind_2, .fz tyI size_4, .fz tyS s6, .no, .no]) 4 sc_law_text.nd rfl (.inl rfl) (xe_call0 (ok_law_signs T) (hr.mono (by decide))) id (fun signs_18 => (y_set (Γ := [.st, .fz tyI y, .fz tyI kind_2, .fz tyI size_4, .fz tyS signs_18, .no, .no]) 3 sc_law_text.nd rfl (.inl rfl) (xe_callS 0 rfl rfl (.inl rfl) (ok_law_draw T) (hr.mono (by decide)) (xa_one (xe_add (xe_var 1 rfl rfl (.inl rfl)) xe_int))) id (fun size_20 => (y_join (ΓJ := fun s7 : Str × Int => [.st, .fz tyI y, .fz tyI kind_2, .fz tyI s7.2, .fz tyS s7.1, .no, .no]) (signs_18, size_20) (Cv.refl _) rfl id)))))) (fun j16 => by exact (y_join (ΓJ := fun s7 : Str × Int => [.st, .fz tyI y, .fz tyI kind_2, .fz tyI s7.2, .fz tyS s7.1, .no, .no]) (s6, size_4) (Cv.refl _) rfl id)) (fun s7 => by exact (y_set (Γ := [.st, .fz tyI y, .fz tyI kind_2, .fz tyI s7.2, .fz tyS s7.1, .no, .no]) 5 sc_law_text.nd rfl (.inl rfl) xe_str id (fun text_8 => (y_for (Γ := [.st, .fz tyI y, .fz tyI kind_2, .fz tyI s7.2, .fz tyS s7.1, .fz tyS text_8, .no]) (ΓT := fun (s9 : Str) (x10 : Int) => [.st, .fz tyI y, .fz tyI kind_2, .fz tyI s7.2, .fz tyS s7.1, .fz tyS s9, .fz tyI x10]) (fun s9 : Str => [.st, .fz tyI y, .fz tyI kind_2, .fz tyI s7.2, .fz tyS s7.1, .fz tyS s9, .no]) text_8 PassesOwn.never rfl (xi_range T.l_range (xe_min2 rfl T.l_min (xe_var 3 rfl rfl (.inl rfl)) (xe_var 1 rfl rfl (.inl rfl)))) (Cv.refl _) (fun s9 => (xg_name 6 sc_law_text.nd rfl (.inl rfl))) id (fun nx11 s9 x10 => by exact (y_set (Γ := [.st, .fz tyI y, .fz tyI kind_2, .fz tyI s7.2, .fz tyS s7.1, .fz tyS s9, .fz tyI x10]) 5 sc_law_text.nd rfl (.inl rfl) (xe_addS (xe_var 5 rfl rfl (.inl rfl)) (xe_ixS (xe_var 4 rfl rfl (.inl rfl)) (xe_callS 0 rfl rfl (.inl rfl) (ok_law_draw T) (hr.mono (by decide)) (xa_one (xe_lenS T.l_len (xe_var 4 rfl rfl (.inl rfl))))) (fun _ _ => rfl))) id (fun text_15 => (y_join (ΓJ := fun s9 : Str => [.st, .fz tyI y, .fz tyI kind_2, .fz tyI s7.2, .fz tyS s7.1, .fz tyS s9, .no]) text_15 (Wk.cv (.same (.same (.same (.same (.same (.same (.no .nil)))))))) rfl id)))) (fun s9 => by exact (y_ret (Γ := [.st, .fz tyI y, .fz tyI kind_2, .fz tyI s7.2, .fz tyS s7.1, .fz tyS s9, .no]) (xe_var 5 rfl rfl (.inl rfl)) id))))))))))))))))
theorem ok_law_text (T : Txt K mg) : Cle P w K mg base "_law_text" 2 (spS (zmR Rst Ist) (Row.one tyI) tyS (w_law_text)) :=
  let ⟨_, F⟩ := T.f_law_text
  ⟨_, _, _, fo_law_text T F, T.g_law_text, F.kp, F.bindsN (fun _ _ _ _ _ _ us hl => match us, hl with | [_, _], _ => rfl)⟩
/-! _law_texts -/
theorem sc_law_texts : FnScope ["state", "many", "most", "one_place", "base", "place", "found", "k", "text"] ["state", "many", "most"] (defScope s_law_texts) := ⟨rfl, rfl, rfl, by decide +kernel, rfl, by decide +kernel, by decide +kernel⟩
def w_law_texts (y : Int × Int) (k : List (Str) → Prop) : Prop :=
  w_law_draw (3 : Int) (fun r1 => (Bnd (decide (r1 = (0 : Int))) fun one_place_2 => w_law_text (y.2 - (1 : Int)) (fun r3 => (Bnd r3 fun base_4 => (base_4).length ≤ sizeLine ∧ (w_law_draw (((base_4).length : Int) + (1 : Int)) (fun r5 => (Bnd r5 fun place_6 => (Bnd ([] : List (Str)) fun found_7 => (-(2 ^ 62) ≤ y.1 ∧ y.1 < 2 ^ 62) ∧ (WFor (rng 0 (y.1).toNat) found_7 (fun (nx10 : (List (Str)) → Prop) (s8 : (List (Str))) x9 => (Jn (fun s12 : Str => (Jn (fun s13 : (List (Str)) => nx10 s13) fun j14 => if (!decide (s12 ∈ s8)) = true then ((s8).length < sizeLine ∧ ((Bnd s12 fun y15 => j14 (s8 ++ [y15])))) else (j14 s8))) fun j16 => if one_place_2 = true then ((base_4).length ≤ sizeLine ∧ (w_law_signs () (fun r17 => w_law_draw (94 : Int) (fun r18 => (r17).length ≤ sizeLine ∧ ∃ c19, atI (r17).cps.toList r18 = some c19 ∧ (((cutS base_4 none (some place_6))).length + ((⟨#[c19]⟩ : Str)).length ≤ sizeLine ∧ ((base_4).length ≤ sizeLine ∧ ((((cutS base_4 none (some place_6)) ++ (⟨#[c19]⟩ : Str))).length + ((cutS base_4 (some (place_6 + (1 : Int))) none)).length ≤ sizeLine ∧ ((Bnd (((cutS base_4 none (some place_6)) ++ (⟨#[c19]⟩ : Str)) ++ (cutS base_4 (some (place_6 + (1 : Int))) none)) fun text_20 => j16 text_20))))))))) else (w_law_text y.2 (fun r21 => (Bnd r21 fun text_22 => j16 text_22))))) (fun (s8 : (List (Str))) => k s8))))))))))
theorem fo_law_texts {fd : FuncData} (T : Txt K mg) (F : FunD K "_law_texts" "_law_texts" (defArgs s_law_texts) (defBody s_law_texts) (defScope s_law_texts) [] [] (He.fAd K ("_law_texts", none)) fd) : FnOk P w K mg base CX0 3 (He.fAd K ("_law_texts", none)) fd ["state", "many", "most"] (spS (zmR Rst Ist) (Row.cons tyI (Row.one tyI)) (tyL tyS) (w_law_texts)) :=
  fn_S (Γ0 := fun y => [.st, .fz tyI y.1, .fz tyI y.2, .no, .no, .no, .no, .no, .no]) (kn := fun _ => False) F sc_law_texts rfl (Nat.le_of_ble_eq_true rfl) (rsl_cons rsl_one) (fun _ => rfl) (fun _ _ h => h.elim) (fun cdv A outer s H E hr st y k => (y_set (Γ := [.st, .fz tyI y.1, .fz tyI y.2, .no, .no, .no, .no, .no, .no]) 3 sc_law_texts.nd rfl (.inl rfl) (xe_eq (xe_callS 0 rfl rfl (.inl rfl) (ok_law_draw T) (hr.mono (by decide)) (xa_one xe_int)) xe_int) id (fun one_place_2 => (y_set (Γ := [.st, .fz tyI y.1, .fz tyI y.2, .fz tyB one_place_2, .no, .no, .no, .no, .no]) 4 sc_law_texts.nd rfl (.inl rfl) (xe_callS 0 rfl rfl (.inl rfl) (ok_law_text T) (hr.mono (by decide)) (xa_one (xe_sub (xe_var 2 rfl rfl (.inl rfl)) xe_int))) id (fun base_4 => (y_set (Γ := [.st, .fz tyI y.1, .fz tyI y.2, .fz tyB one_place_2, .fz tyS base_4, .no, .no, .no, .no]) 5 sc_law_texts.nd rfl (.inl rfl) (xe_callS 0 rfl rfl (.inl rfl) (ok_law_draw T) (hr.mono (by decide)) (xa_one (xe_add (xe_lenS T.l_len (xe_var 4 rfl rfl (.inl rfl))) xe_int))) id (fun place_6 => (y_setF (Γ := [.st, .fz tyI y.1, .fz tyI y.2, .fz tyB one_place_2, .fz tyS base_4, .fz tyI place_6, .no, .no, .no]) 6 sc_law_texts.nd rfl (.inl rfl) (xf_nil (A := tyS)) id (fun found_7 => (y_for (Γ := [.st, .fz tyI y.1, .fz tyI y.2, .fz tyB one_place_2, .fz tyS base_4, .fz tyI place_6, .ml tyS found_7, .no, .no]) (ΓT := fun (s8 : (List (Str))) (x9 : Int) => [.st, .fz tyI y.1, .fz tyI y.2, .fz tyB one_place_2, .fz tyS base_4, .fz tyI place_6, .ml tyS s8, .fz tyI x9, .no]) (fun s8 : (List (Str)) => [.st, .fz tyI y.1, .fz tyI y.2, .fz tyB one_place_2, .fz tyS base_4, .fz tyI place_6, .ml tyS s8, .no, .no]) found_7 PassesOwn.never rfl (xi_range T.l_range (xe_var 1 rfl rfl (.inl rfl))) (Cv.refl _) (fun s8 => (xg_name 7 sc_law_texts.nd rfl (.inl rfl))) id (fun nx10 s8 x9 => by exact (y_if (Γ := [.st, .fz tyI y.1, .fz tyI y.2, .fz tyB one_place_2, .fz tyS base_4, .fz tyI place_6, .ml tyS s8, .fz tyI x9, .no]) (fun s12 : Str => [.st, .fz tyI y.1, .fz tyI y.2, .fz tyB one_place_2, .fz tyS base_4, .fz tyI place_6, .ml tyS s8, .fz tyI x9, .fz tyS s12]) (xt_val (xe_var 3 rfl rfl (.inl rfl))) id (fun j16 => by exact (y_set (Γ := [.st, .fz tyI y.1, .fz tyI y.2, .fz tyB one_place_2, .fz tyS base_4, .fz tyI place_6, .ml tyS s8, .fz tyI x9, .no]) 8 sc_law_texts.nd rfl (.inl rfl) (xe_addS (xe_addS (xe_slS (xe_var 4 rfl rfl (.inl rfl)) xo_none (xo_some (xe_var 5 rfl rfl (.inl rfl)))) (xe_ixS (xe_call0 (ok_law_signs T) (hr.mono (by decide))) (xe_callS 0 rfl rfl (.inl rfl) (ok_law_draw T) (hr.mono (by decide)) (xa_one xe_int)) (fun _ _ => rfl))) (xe_slS (xe_var 4 rfl rfl (.inl rfl)) (xo_some (xe_add (xe_var 5 rfl rfl (.inl rfl)) xe_int)) xo_none)) id (fun text_20 => (y_join (ΓJ := fun s12 : Str => [.st, .fz tyI y.1, .fz tyI y.2, .fz tyB one_place_2, .fz tyS base_4, .fz tyI place_6, .ml tyS s8, .fz tyI x9, .fz tyS s12]) text_20 (Cv.refl _) rfl id)))) (fun j16 => by exact (y_set (Γ := [.st, .fz tyI y.1, .fz tyI y.2, .fz tyB one_place_2, .fz tyS base_4, .fz tyI place_6, .ml tyS s8, .fz tyI x9, .no]) 8 sc_law_texts.nd rfl (.inl rfl) (xe_callS 0 rfl rfl (.inl rfl) (ok_law_text T) (hr.mono (by decide)) (xa_one (xe_var 2 rfl rfl (.inl rfl)))) id (fun text_22 => (y_join (ΓJ := fun s12 : Str => [.st, .fz tyI y.1, .fz tyI y.2, .fz tyB one_place_2, .fz tyS base_4, .fz tyI place_6, .ml tyS s8, .fz tyI x9, .fz tyS s12]) text_22 (Cv.refl _) rfl id)))) (fun s12 => by exact (y_if (Γ := [.st, .fz tyI y.1, .fz tyI y.2, .fz tyB one_place_2, .fz tyS base_4, .fz tyI place_6, .ml tyS s8, .fz tyI x9, .fz tyS s12]) (fun s13 : (List (Str)) => [.st, .fz tyI y.1, .fz tyI y.2, .fz tyB one_place_2, .fz tyS base_4, .fz tyI place_6, .ml tyS s13, .fz tyI x9, .fz tyS s12]) (xt_notIn (xe_var 8 rfl rfl (.inl rfl)) (xl_own 6 rfl rfl (.inl rfl))) id (fun j14 => by exact (y_app (Γ := [.st, .fz tyI y.1, .fz tyI y.2, .fz tyB one_place_2, .fz tyS base_4, .fz tyI place_6, .ml tyS s8, .fz tyI x9, .fz tyS s12]) 6 rfl rfl (.inl rfl) (xe_var 8 rfl rfl (.inl rfl)) id (fun y15 => (y_join (ΓJ := fun s13 : (List (Str)) => [.st, .fz tyI y.1, .fz tyI y.2, .fz tyB one_place_2, .fz tyS base_4, .fz tyI place_6, .ml tyS s13, .fz tyI x9, .fz tyS s12]) (s8 ++ [y15]) (Cv.refl _) rfl id)))) (fun j14 => by exact (y_join (ΓJ := fun s13 : (List (Str)) => [.st, .fz tyI y.1, .fz tyI y.2, .fz tyB one_place_2, .fz tyS base_4, .fz tyI place_6, .ml tyS s13, .fz tyI x9, .fz tyS s12]) s8 (Cv.refl _) rfl id)) (fun s13 => by exact (y_join (ΓJ := fun s8 : (List (Str)) => [.st, .fz tyI y.1, .fz tyI y.2, .fz tyB one_place_2, .fz tyS base_4, .fz tyI place_6, .ml tyS s8, .no, .no]) s13 (Wk.cv (.same (.same (.same (.same (.same (.same (.same (.no (.no .nil)))))))))) rfl id)))))) (fun s8 => by exact (xb_cv (cv_ml 6 rfl) (y_ret (Γ := [.st, .fz tyI y.1, .fz tyI y.2, .fz tyB one_place_2, .fz tyS base_4, .fz tyI place_6, .fz (tyL tyS) s8, .no, .no]) (xe_var 6 rfl rfl (.inl rfl)) id)))))))))))))
theorem ok_law_texts (T : Txt K mg) : Cle P w K mg base "_law_texts" 3 (spS (zmR Rst Ist) (Row.cons tyI (Row.one tyI)) (tyL tyS) (w_law_texts)) :=
  let ⟨_, F⟩ := T.f_law_texts
  ⟨_, _, _, fo_law_texts T F, T.g_law_texts, F.kp, F.bindsN (fun _ _ _ _ _ _ us hl => match us, hl with | [_, _, _], _ => rfl)⟩
/-! _law_wide -/
theorem sc_law_wide : FnScope ["state", "number", "k", "limit"] ["state"] (defScope s_law_wide) := ⟨rfl, rfl, rfl, by decide +kernel, rfl, by decide +kernel, by decide +kernel⟩
def w_law_wide (y : Unit) (k : Int → Prop) : Prop :=
  (Bnd (0 : Int) fun number_1 => (-(2 ^ 62) ≤ (5 : Int) ∧ (5 : Int) < 2 ^ 62) ∧ (WFor (rng 0 ((5 : Int)).toNat) number_1 (fun (nx4 : Int → Prop) (s2 : Int) x3 => CMulW s2 (1000000000 : Int) ∧ (w_law_draw (1000000000 : Int) (fun r6 => (Bnd ((s2 * (1000000000 : Int)) + r6) fun number_7 => nx4 number_7)))) (fun (s2 : Int) => (Bnd (1 : Int) fun limit_8 => w_law_draw (41 : Int) (fun r9 => (-(2 ^ 62) ≤ r9 ∧ r9 < 2 ^ 62) ∧ (WFor (rng 0 (r9).toNat) limit_8 (fun (nx12 : Int → Prop) (s10 : Int) x11 => CMulW s10 (10 : Int) ∧ ((Bnd (s10 * (10 : Int)) fun limit_14 => nx12 limit_14))) (fun (s10 : Int) => 0 < s10 ∧ (k (s2 % s10)))))))))
theorem fo_law_wide {fd : FuncData} (T : Txt K mg) (F : FunD K "_law_wide" "_law_wide" (defArgs s_law_wide) (defBody s_law_wide) (defScope s_law_wide) [] [] (He.fAd K ("_law_wide", none)) fd) : FnOk P w K mg base CX0 2 (He.fAd K ("_law_wide", none)) fd ["state"] (spS (zmR Rst Ist) Row.nil tyI (w_law_wide)) :=
  fn_S (Γ0 := fun y => [.st, .no, .no, .no]) (kn := fun _ => False) F sc_law_wide rfl (Nat.le_of_ble_eq_true rfl) rsl_nil (fun _ => rfl) (fun _ _ h => h.elim) (fun cdv A outer s H E hr st y k => (y_set (Γ := [.st, .no, .no, .no]) 1 sc_law_wide.nd rfl (.inl rfl) xe_int id (fun number_1 => (y_for (Γ := [.st, .fz tyI number_1, .no, .no]) (ΓT := fun (s2 : Int) (x3 : Int) => [.st, .fz tyI s2, .fz tyI x3, .no]) (fun s2 : Int => [.st, .fz tyI s2, .no, .no]) number_1 PassesOwn.never rfl (xi_range T.l_range xe_int) (Cv.refl _) (fun s2 => (xg_name 2 sc_law_wide.nd rfl (.inl rfl))) id (fun nx4 s2 x3 => by exact (y_set (Γ := [.st, .fz tyI s2, .fz tyI x3, .no]) 1 sc_law_wide.nd rfl (.inl rfl) (xe_add (xe_mul (xe_var 1 rfl rfl (.inl rfl)) (xe_powc (n := 1000000000) (by decide +kernel) xe_int xe_int)) (xe_callS 0 rfl rfl (.inl rfl) (ok_law_draw T) (hr.mono (by decide)) (xa_one (xe_powc (n := 1000000000) (by decide +kernel) xe_int xe_int)))) id (fun number_7 => (y_join (ΓJ := fun s2 : Int => [.st, .fz tyI s2, .no, .no]) number_7 (Wk.cv (.same (.same (.no (.same .nil))))) rfl id)))) (fun s2 => by exact (y_set (Γ := [.st, .fz tyI s2, .no, .no]) 3 sc_law_wide.nd rfl (.inl rfl) xe_int id (fun limit_8 => (y_for (Γ := [.st, .fz tyI s2, .no, .fz tyI limit_8]) (ΓT := fun (s10 : Int) (x11 : Int) => [.st, .fz tyI s2, .fz tyI x11, .fz tyI s10]) (fun s10 : Int => [.st, .fz tyI s2, .no, .fz tyI s10]) limit_8 PassesOwn.never rfl (xi_range T.l_range (xe_callS 0 rfl rfl (.inl rfl) (ok_law_draw T) (hr.mono (by decide)) (xa_one xe_int))) (Cv.refl _) (fun s10 => (xg_name 2 sc_law_wide.nd rfl (.inl rfl))) id (fun nx12 s10 x11 => by exact (y_set (Γ := [.st, .fz tyI s2, .fz tyI x11, .fz tyI s10]) 3 sc_law_wide.nd rfl (.inl rfl) (xe_mul (xe_var 3 rfl rfl (.inl rfl)) xe_int) id (fun limit_14 => (y_join (ΓJ := fun s10 : Int => [.st, .fz tyI s2, .no, .fz tyI s10]) limit_14 (Wk.cv (.same (.same (.no (.same .nil))))) rfl id)))) (fun s10 => by exact (y_ret (Γ := [.st, .fz tyI s2, .no, .fz tyI s10]) (xe_mod (xe_int1 T.l_int (xe_var 1 rfl rfl (.inl rfl))) (xe_var 3 rfl rfl (.inl rfl))) id))))))))))
theorem ok_law_wide (T : Txt K mg) : Cle P w K mg base "_law_wide" 2 (spS (zmR Rst Ist) Row.nil tyI (w_law_wide)) :=
  let ⟨_, F⟩ := T.f_law_wide
  ⟨_, _, _, fo_law_wide T F, T.g_law_wide, F.kp, F.bindsN (fun _ _ _ _ _ _ us hl => match us, hl with | [_], _ => rfl)⟩
/-! _law_weight -/
theorem sc_law_weight : FnScope ["state", "kind"] ["state", "kind"] (defScope s_law_weight) := ⟨rfl, rfl, rfl, by decide +kernel, rfl, by decide +kernel, by decide +kernel⟩
def w_law_weight (y : Int) (k : Int → Prop) : Prop :=
  if (decide (y < (4 : Int))) = true then (w_law_draw (4 : Int) (fun r1 => k ((1 : Int) + r1))) else (if (decide (y < (6 : Int))) = true then (w_law_draw (20 : Int) (fun r2 => k ((1 : Int) + r2))) else (if (decide (y = (6 : Int))) = true then (w_law_draw (6 : Int) (fun r3 => CMulW (6 : Int) r3 ∧ (k ((6 : Int) + ((6 : Int) * r3))))) else (w_law_wide () (fun r4 => k (max (1 : Int) r4)))))
theorem fo_law_weight {fd : FuncData} (T : Txt K mg) (F : FunD K "_law_weight" "_law_weight" (defArgs s_law_weight) (defBody s_law_weight) (defScope s_law_weight) [] [] (He.fAd K ("_law_weight", none)) fd) : FnOk P w K mg base CX0 3 (He.fAd K ("_law_weight", none)) fd ["state", "kind"] (spS (zmR Rst Ist) (Row.one tyI) tyI (w_law_weight)) :=
  fn_S (Γ0 := fun y => [.st, .fz tyI y]) (kn := fun _ => False) F sc_law_weight rfl (Nat.le_of_ble_eq_true rfl) rsl_one (fun _ => rfl) (fun _ _ h => h.elim) (fun cdv A outer s H E hr st y k => (y_if1 (Γ := [.st, .fz tyI y]) (xt_lt (xe_var 1 rfl rfl (.inl rfl)) xe_int) id (by exact (y_ret (Γ := [.st, .fz tyI y]) (xe_add xe_int (xe_callS 0 rfl rfl (.inl rfl) (ok_law_draw T) (hr.mono (by decide)) (xa_one xe_int))) id)) (by exact (y_if1 (Γ := [.st, .fz tyI y]) (xt_lt (xe_var 1 rfl rfl (.inl rfl)) xe_int) id (by exact (y_ret (Γ := [.st, .fz tyI y]) (xe_add xe_int (xe_callS 0 rfl rfl (.inl rfl) (ok_law_draw T) (hr.mono (by decide)) (xa_one xe_int))) id)) (by exact (y_if1 (Γ := [.st, .fz tyI y]) (xt_eq (xe_var 1 rfl rfl (.inl rfl)) xe_int) id (by exact (y_ret (Γ := [.st, .fz tyI y]) (xe_add xe_int (xe_mul xe_int (xe_callS 0 rfl rfl (.inl rfl) (ok_law_draw T) (hr.mono (by decide)) (xa_one xe_int)))) id)) (by exact (y_ret (Γ := [.st, .fz tyI y]) (xe_max2 rfl T.l_max xe_int (xe_callS 0 rfl rfl (.inl rfl) (ok_law_wide T) (hr.mono (by decide)) xa_nil)) id))))))))
theorem ok_law_weight (T : Txt K mg) : Cle P w K mg base "_law_weight" 3 (spS (zmR Rst Ist) (Row.one tyI) tyI (w_law_weight)) :=
  let ⟨_, F⟩ := T.f_law_weight
  ⟨_, _, _, fo_law_weight T F, T.g_law_weight, F.kp, F.bindsN (fun _ _ _ _ _ _ us hl => match us, hl with | [_, _], _ => rfl)⟩
/-! _law_pairs -/
theorem sc_law_pairs : FnScope ["state", "most", "many", "kind", "text"] ["state", "most"] (defScope s_law_pairs) := ⟨rfl, rfl, rfl, by decide +kernel, rfl, by decide +kernel, by decide +kernel⟩
def w_law_pairs (y : Int) (k : List (Str × Int) → Prop) : Prop :=
  w_law_draw (min (4 : Int) (y - (1 : Int))) (fun r1 => (Bnd ((2 : Int) + r1) fun many_2 => (Jn (fun s4 : Int => w_law_draw (8 : Int) (fun r5 => (Bnd r5 fun kind_6 => w_law_texts (s4, (10 : Int)) (fun r7 => WLc r7 (fun x8 kk10 => kk10 true) (fun x8 kk11 => w_law_weight kind_6 (fun r9 => kk11 (x8, r9))) (fun r12 => k r12))))) fun j13 => w_law_draw (6 : Int) (fun r3 => if (decide (r3 = (0 : Int))) = true then (w_law_draw y (fun r14 => (Bnd ((1 : Int) + r14) fun many_15 => j13 many_15))) else (j13 many_2)))))
theorem fo_law_pairs {fd : FuncData} (T : Txt K mg) (F : FunD K "_law_pairs" "_law_pairs" (defArgs s_law_pairs) (defBody s_law_pairs) (defScope s_law_pairs) [] [] (He.fAd K ("_law_pairs", none)) fd) : FnOk P w K mg base CX0 4 (He.fAd K ("_law_pairs", none)) fd ["state", "most"] (spS (zmR Rst Ist) (Row.one tyI) (tyL (tyT (Row.cons tyS (Row.one tyI)))) (w_law_pairs)) :=
  fn_S (Γ0 := fun y => [.st, .fz tyI y, .no, .no, .no]) (kn := fun _ => False) F sc_law_pairs rfl (Nat.le_of_ble_eq_true rfl) rsl_one (fun _ => rfl) (fun _ _ h => h.elim) (fun cdv A outer s H E hr st y k => (y_set (Γ := [.st, .fz tyI y, .no, .no, .no]) 2 sc_law_pairs.nd rfl (.inl rfl) (xe_add xe_int (xe_callS 0 rfl rfl (.inr (.inl rfl)) (ok_law_draw T) (hr.mono (by decide)) (xa_one (xe_min2 rfl T.l_min xe_int (xe_sub (xe_var 1 rfl rfl (.inl rfl)) xe_int))))) id (fun many_2 => (y_if (Γ := [.st, .fz tyI y, .fz tyI many_2, .no, .no]) (fun s4 : Int => [.st, .fz tyI y, .fz tyI s4, .no, .no]) (xt_eq (xe_callS 0 rfl rfl (.inr (.inl rfl)) (ok_law_draw T) (hr.mono (by decide)) (xa_one xe_int)) xe_int) id (fun j13 => by exact (y_set (Γ := [.st, .fz tyI y, .fz tyI many_2, .no, .no]) 2 sc_law_pairs.nd rfl (.inl rfl) (xe_add xe_int (xe_callS 0 rfl rfl (.inr (.inl rfl)) (ok_law_draw T) (hr.mono (by decide)) (xa_one (xe_var 1 rfl rfl (.inl rfl))))) id (fun many_15 => (y_join (ΓJ := fun s4 : Int => [.st, .fz tyI y, .fz tyI s4, .no, .no]) many_15 (Cv.refl _) rfl id)))) (fun j13 => by exact (y_join (ΓJ := fun s4 : Int => [.st, .fz tyI y, .fz tyI s4, .no, .no]) many_2 (Cv.refl _) rfl id)) (fun s4 => by exact (y_set (Γ := [.st, .fz tyI y, .fz tyI s4, .no, .no]) 3 sc_law_pairs.nd rfl (.inr rfl) (xe_callS 0 rfl rfl (.inr (.inl rfl)) (ok_law_draw T) (hr.mono (by decide)) (xa_one xe_int)) id (fun kind_6 => (y_ret (Γ := [.st, .fz tyI y, .fz tyI s4, .fz tyI kind_6, .no]) (xe_f (xf_c (xc_lc (B := (tyT (Row.cons tyS (Row.one tyI)))) (ΓT := fun (x8 : Str) => [.st, .fz tyI y, .fz tyI s4, .fz tyI kind_6, .fz tyS x8]) [("text", 4)] rfl sc_law_pairs.nd (xi_list (xe_callS 0 rfl rfl (.inr (.inl rfl)) (ok_law_texts T) (hr.mono (by decide)) (xa_cons (xe_var 2 rfl rfl (.inl rfl)) (xa_one xe_int)))) (by show blkC ["state", "most", "many", "kind", "text"] (defScope s_law_pairs) _ [("text", 4)] = true; decide +kernel) (fun _ _ _ _ _ => (xg_name 4 sc_law_pairs.nd rfl (.inl rfl))) (by decide) (fun _ _ _ _ _ x8 => xts_nil) (fun _ _ _ _ _ x8 => (xe_tup (xa_cons (xe_var 4 rfl rfl (.inl rfl)) (xa_one (xe_callS 0 rfl rfl (.inr (.inl rfl)) (ok_law_weight T) (hr.mono (by decide)) (xa_one (xe_var 3 rfl rfl (.inr (.inl rfl)))))))))))) id))))))))
theorem ok_law_pairs (T : Txt K mg) : Cle P w K mg base "_law_pairs" 4 (spS (zmR Rst Ist) (Row.one tyI) (tyL (tyT (Row.cons tyS (Row.one tyI)))) (w_law_pairs)) :=
  let ⟨_, F⟩ := T.f_law_pairs
  ⟨_, _, _, fo_law_pairs T F, T.g_law_pairs, F.kp, F.bindsN (fun _ _ _ _ _ _ us hl => match us, hl with | [_, _], _ => rfl)⟩
/-! _law_spec -/
theorem sc_law_spec : FnScope ["state", "letters", "many", "rows", "k", "row", "length", "place", "pair"] ["state"] (defScope s_law_spec) := ⟨rfl, rfl, rfl, by decide +kernel, rfl, by decide +kernel, by decide +kernel⟩
def w_law_spec (y : Unit) (k : Str × Int × (List (List (Int × Int))) × Int → Prop) : Prop :=
  w_law_draw (2 : Int) (fun r1 => (Bnd ((2 : Int) + r1) fun letters_2 => (Jn (fun s4 : Int => w_law_draw (2 : Int) (fun r5 => (Bnd ((1 : Int) + r5) fun many_6 => (Bnd ([] : List (List (Int × Int))) fun rows_7 => (-(2 ^ 62) ≤ many_6 ∧ many_6 < 2 ^ 62) ∧ (WFor (rng 0 (many_6).toNat) rows_7 (fun (nx10 : ((List (List (Int × Int)))) → Prop) (s8 : (List (List (Int × Int)))) x9 => (-(2 ^ 62) ≤ s4 ∧ s4 < 2 ^ 62) ∧ (WLc (rng 0 (s4).toNat) (fun x12 kk15 => kk15 true) (fun x12 kk16 => w_law_draw (5 : Int) (fun r13 => w_law_draw many_6 (fun r14 => kk16 (r13, r14)))) (fun r17 => (Bnd r17 fun row_18 => (Jn (fun s20 : (List (Int × Int)) => (s8).length < sizeLine ∧ ((Bnd s20 fun y21 => nx10 (s8 ++ [y21])))) fun j22 => (row_18).length < sizeLine ∧ (if (decide (((row_18.map fun x19 => x19.1)).sum = (0 : Int))) = true then (w_law_draw (4 : Int) (fun r23 => w_law_draw s4 (fun r24 => ∃ m26, ixN (row_18).length r24 = some m26 ∧ ((Bnd ((row_18).set m26 (((1 : Int) + r23), (many_6 - (1 : Int)))) fun row_25 => j22 row_25))))) else (j22 row_18))))))) (fun (s8 : (List (List (Int × Int)))) => w_law_draw (3 : Int) (fun r27 => (Bnd ((1 : Int) + r27) fun length_28 => (Jn (fun s30 : Int => (("abc" : Str)).length ≤ sizeLine ∧ (w_law_draw many_6 (fun r31 => k ((cutS ("abc" : Str) none (some s4)), r31, s8, s30)))) fun j32 => w_law_draw (6 : Int) (fun r29 => if (decide (r29 = (0 : Int))) = true then (Bnd (0 : Int) fun length_33 => j32 length_33) else (j32 length_28))))))))))) fun j34 => w_law_draw (6 : Int) (fun r3 => if (decide (r3 = (0 : Int))) = true then (Bnd (1 : Int) fun letters_35 => j34 letters_35) else (j34 letters_2)))))
theorem fo_law_spec {fd : FuncData} (T : Txt K mg) (F : FunD K "_law_spec" "_law_spec" (defArgs s_law_spec) (defBody s_law_spec) (defScope s_law_spec) [] [] (He.fAd K ("_law_spec", none)) fd) : FnOk P w K mg base CX0 2 (He.fAd K ("_law_spec", none)) fd ["state"] (spS (zmR Rst Ist) Row.nil (tyM (Row.cons tyS (Row.cons tyI (Row.cons (tyL (tyL (tyT (Row.cons tyI (Row.one tyI))))) (Row.one tyI))))) (w_law_spec)) :=
  fn_S (Γ0 := fun y => [.st, .no, .no, .no, .no, .no, .no, .no, .no]) (kn := fun _ => False) F sc_law_spec rfl (Nat.le_of_ble_eq_true rfl) rsl_nil (fun _ => rfl) (fun _ _ h => h.elim) (fun cdv A outer s H E hr st y k => (y_set (Γ := [.st, .no, .no, .no, .no, .no, .no, .no, .no]) 1 sc_law_spec.nd rfl (.inl rfl) (xe_add xe_int (xe_callS 0 rfl rfl (.inr (.inl rfl)) (ok_law_draw T) (hr.mono (by decide)) (xa_one xe_int))) id (fun letters_2 => (y_if (Γ := [.st, .fz tyI letters_2, .no, .no, .no, .no, .no, .no, .no]) (fun s4 : Int => [.st, .fz tyI s4, .no, .no, .no, .no, .no, .no, .no]) (xt_eq (xe_callS 0 rfl rfl (.inr (.inl rfl)) (ok_law_draw T) (hr.mono (by decide)) (xa_one xe_int)) xe_int) id (fun j34 => by exact (y_set (Γ := [.st, .fz tyI letters_2, .no, .no, .no, .no, .no, .no, .no]) 1 sc_law_spec.nd rfl (.inl rfl) xe_int id (fun letters_35 => (y_join (ΓJ := fun s4 : Int => [.st, .fz tyI s4, .no, .no, .no, .no, .no, .no, .no]) letters_35 (Cv.refl _) rfl id)))) (fun j34 => by exact (y_join (ΓJ := fun s4 : Int => [.st, .fz tyI s4, .no, .no, .no, .no, .no, .no, .no]) letters_2 (Cv.refl _) rfl id)) (fun s4 => by exact (y_set (Γ := [.st, .fz tyI s4, .no, .no, .no, .no, .no, .no, .no]) 2 sc_law_spec.nd rfl (.inr rfl) (xe_add xe_int (xe_callS 0 rfl rfl (.inr (.inl rfl)) (ok_law_draw T) (hr.mono (by decide)) (xa_one xe_int))) id (fun many_6 => (y_setF (Γ := [.st, .fz tyI s4, .fz tyI many_6, .no, .no, .no, .no, .no, .no]) 3 sc_law_spec.nd rfl (.inl rfl) (xf_nil (A := (tyL (tyT (Row.cons tyI (Row.one tyI)))))) id (fun rows_7 => (y_for (Γ := [.st, .fz tyI s4, .fz tyI many_6, .ml (tyL (tyT (Row.cons tyI (Row.one tyI)))) rows_7, .no, .no, .no, .no, .no]) (ΓT := fun (s8 : (List (List (Int × Int)))) (x9 : Int) => [.st, .fz tyI s4, .fz tyI many_6, .ml (tyL (tyT (Row.cons tyI (Row.one tyI)))) s8, .fz tyI x9, .no, .no, .no, .no]) (fun s8 : (List (List (Int × Int))) => [.st, .fz tyI s4, .fz tyI many_6, .ml (tyL (tyT (Row.cons tyI (Row.one tyI)))) s8, .no, .no, .no, .no, .no]) rows_7 PassesOwn.never rfl (xi_range T.l_range (xe_var 2 rfl rfl (.inr (.inl rfl)))) (Cv.refl _) (fun s8 => (xg_name 4 sc_law_spec.nd rfl (.inl rfl))) id (fun nx10 s8 x9 => by exact (y_setC (Γ := [.st, .fz tyI s4, .fz tyI many_6, .ml (tyL (tyT (Row.cons tyI (Row.one tyI)))) s8, .fz tyI x9, .no, .no, .no, .no]) 5 rfl rfl (xc_lc (B := (tyT (Row.cons tyI (Row.one tyI)))) (ΓT := fun (x12 : Int) => [.st, .fz tyI s4, .fz tyI many_6, .ml (tyL (tyT (Row.cons tyI (Row.one tyI)))) s8, .fz tyI x9, .no, .no, .fz tyI x12, .no]) [("place", 7)] rfl sc_law_spec.nd (xi_range T.l_range (xe_var 1 rfl rfl (.inl rfl))) (by show blkC ["state", "letters", "many", "rows", "k", "row", "length", "place", "pair"] (defScope s_law_spec) _ [("place", 7)] = true; decide +kernel) (fun _ _ _ _ _ => (xg_name 7 sc_law_spec.nd rfl (.inl rfl))) (by decide) (fun _ _ _ _ _ x12 => xts_nil) (fun _ _ _ _ _ x12 => (xe_tup (xa_cons (xe_callS 0 rfl rfl (.inr (.inl rfl)) (ok_law_draw T) (hr.mono (by decide)) (xa_one xe_int)) (xa_one (xe_callS 0 rfl rfl (.inr (.inl rfl)) (ok_law_draw T) (hr.mono (by decide)) (xa_one (xe_var 2 rfl rfl (.inr (.inl rfl)))))))))) id (fun row_18 => (y_if (Γ := [.st, .fz tyI s4, .fz tyI many_6, .ml (tyL (tyT (Row.cons tyI (Row.one tyI)))) s8, .fz tyI x9, .ml (tyT (Row.cons tyI (Row.one tyI))) row_18, .no, .no, .no]) (fun s20 : (List (Int × Int)) => [.st, .fz tyI s4, .fz tyI many_6, .ml (tyL (tyT (Row.cons tyI (Row.one tyI)))) s8, .fz tyI x9, .ml (tyT (Row.cons tyI (Row.one tyI))) s20, .no, .no, .no]) (xt_eq (xe_sum rfl T.l_sum (xl_of (xe_f (xf_c (xq_lcm (f := fun x19 => x19.1) (B := tyI) (ΓT := fun (x19 : Int × Int) => [.st, .fz tyI s4, .fz tyI many_6, .ml (tyL (tyT (Row.cons tyI (Row.one tyI)))) s8, .fz tyI x9, .ml (tyT (Row.cons tyI (Row.one tyI))) row_18, .no, .no, .fz (tyT (Row.cons tyI (Row.one tyI))) x19]) [("pair", 8)] rfl sc_law_spec.nd (xip_own 5 rfl rfl (.inl rfl)) (by show blkC ["state", "letters", "many", "rows", "k", "row", "length", "place", "pair"] (defScope s_law_spec) _ [("pair", 8)] = true; decide +kernel) (fun _ _ _ _ _ => (xg_name 8 sc_law_spec.nd rfl (.inl rfl))) (by decide) (fun _ _ _ _ _ x19 => (xe_itT (xe_var 8 rfl rfl (.inl rfl)) ra_zero xe_int (fun _ _ => rfl))) rfl))))) xe_int) id (fun j22 => by exact (y_setL (Γ := [.st, .fz tyI s4, .fz tyI many_6, .ml (tyL (tyT (Row.cons tyI (Row.one tyI)))) s8, .fz tyI x9, .ml (tyT (Row.cons tyI (Row.one tyI))) row_18, .no, .no, .no]) 5 rfl rfl (.inl rfl) (xe_tup (xa_cons (xe_add xe_int (xe_callS 0 rfl rfl (.inr (.inl rfl)) (ok_law_draw T) (hr.mono (by decide)) (xa_one xe_int))) (xa_one (xe_sub (xe_var 2 rfl rfl (.inr (.inl rfl))) xe_int)))) (xe_callS 0 rfl rfl (.inr (.inl rfl)) (ok_law_draw T) (hr.mono (by decide)) (xa_one (xe_var 1 rfl rfl (.inl rfl)))) id (fun row_25 => (y_join (ΓJ := fun s20 : (List (Int × Int)) => [.st, .fz tyI s4, .fz tyI many_6, .ml (tyL (tyT (Row.cons tyI (Row.one tyI)))) s8, .fz tyI x9, .ml (tyT (Row.cons tyI (Row.one tyI))) s20, .no, .no, .no]) row_25 (Cv.refl _) rfl id)))) (fun j22 => by exact (y_join (ΓJ := fun s20 : (List (Int × Int)) => [.st, .fz tyI s4, .fz tyI many_6, .ml (tyL (tyT (Row.cons tyI (Row.one tyI)))) s8, .fz tyI x9, .ml (tyT (Row.cons tyI (Row.one tyI))) s20, .no, .no, .no]) row_18 (Cv.refl _) rfl id)) (fun s20 => by exact (xb_cv (cv_ml 5 rfl) (y_app (Γ := [.st, .fz tyI s4, .fz tyI many_6, .ml (tyL (tyT (Row.cons tyI (Row.one tyI)))) s8, .fz tyI x9, .fz (tyL (tyT (Row.cons tyI (Row.one tyI)))) s20, .no, .no, .no]) 3 rfl rfl (.inl rfl) (xe_var 5 rfl rfl (.inl rfl)) id (fun y21 => (y_join (ΓJ := fun s8 : (List (List (Int × Int))) => [.st, .fz tyI s4, .fz tyI many_6, .ml (tyL (tyT (Row.cons tyI (Row.one tyI)))) s8, .no, .no, .no, .no, .no]) (s8 ++ [y21]) (Wk.cv (.same (.same (.same (.same (.no (.no (.same (.same (.same .nil)))))))))) rfl id))))))))) (fun s8 => by exact (y_set (Γ := [.st, .fz tyI s4, .fz tyI many_6, .ml (tyL (tyT (Row.cons tyI (Row.one tyI)))) s8, .no, .no, .no, .no, .no]) 6 sc_law_spec.nd rfl (.inl rfl) (xe_add xe_int (xe_callS 0 rfl rfl (.inr (.inl rfl)) (ok_law_draw T) (hr.mono (by decide)) (xa_one xe_int))) id (fun length_28 => (y_if (Γ := [.st, .fz tyI s4, .fz tyI many_6, .ml (tyL (tyT (Row.cons tyI (Row.one tyI)))) s8, .no, .no, .fz tyI length_28, .no, .no]) (fun s30 : Int => [.st, .fz tyI s4, .fz tyI many_6, .ml (tyL (tyT (Row.cons tyI (Row.one tyI)))) s8, .no, .no, .fz tyI s30, .no, .no]) (xt_eq (xe_callS 0 rfl rfl (.inr (.inl rfl)) (ok_law_draw T) (hr.mono (by decide)) (xa_one xe_int)) xe_int) id (fun j32 => by exact (y_set (Γ := [.st, .fz tyI s4, .fz tyI many_6, .ml (tyL (tyT (Row.cons tyI (Row.one tyI)))) s8, .no, .no, .fz tyI length_28, .no, .no]) 6 sc_law_spec.nd rfl (.inl rfl) xe_int id (fun length_33 => (y_join (ΓJ := fun s30 : Int => [.st, .fz tyI s4, .fz tyI many_6, .ml (tyL (tyT (Row.cons tyI (Row.one tyI)))) s8, .no, .no, .fz tyI s30, .no, .no]) length_33 (Cv.refl _) rfl id)))) (fun j32 => by exact (y_join (ΓJ := fun s30 : Int => [.st, .fz tyI s4, .fz tyI many_6, .ml (tyL (tyT (Row.cons tyI (Row.one tyI)))) s8, .no, .no, .fz tyI s30, .no, .no]) length_28 (Cv.refl _) rfl id)) (fun s30 => by exact (xb_cv (cv_ml 3 rfl) (y_ret (Γ := [.st, .fz tyI s4, .fz tyI many_6, .fz (tyL (tyL (tyT (Row.cons tyI (Row.one tyI))))) s8, .no, .no, .fz tyI s30, .no, .no]) (xe_mix (xa_cons (xe_slS xe_str xo_none (xo_some (xe_var 1 rfl rfl (.inl rfl)))) (xa_cons (xe_callS 0 rfl rfl (.inr (.inl rfl)) (ok_law_draw T) (hr.mono (by decide)) (xa_one (xe_var 2 rfl rfl (.inr (.inl rfl))))) (xa_cons (xe_var 3 rfl rfl (.inl rfl)) (xa_one (xe_var 6 rfl rfl (.inl rfl))))))) id)))))))))))))))))
theorem ok_law_spec (T : Txt K mg) : Cle P w K mg base "_law_spec" 2 (spS (zmR Rst Ist) Row.nil (tyM (Row.cons tyS (Row.cons tyI (Row.cons (tyL (tyL (tyT (Row.cons tyI (Row.one tyI))))) (Row.one tyI))))) (w_law_spec)) :=
  let ⟨_, F⟩ := T.f_law_spec
  ⟨_, _, _, fo_law_spec T F, T.g_law_spec, F.kp, F.bindsN (fun _ _ _ _ _ _ us hl => match us, hl with | [_], _ => rfl)⟩
/-! _law_gcd -/
theorem sc_law_gcd : FnScope ["one", "other", "k"] ["one", "other"] (defScope s_law_gcd) := ⟨rfl, rfl, rfl, by decide +kernel, rfl, by decide +kernel, by decide +kernel⟩
def w_law_gcd (y : Int × Int) (k : Int → Prop) : Prop :=
  CMulW (2 : Int) (((Builtin.Int.intBits y.1 : Nat) : Int) + ((Builtin.Int.intBits y.2 : Nat) : Int)) ∧ ((-(2 ^ 62) ≤ (((2 : Int) * (((Builtin.Int.intBits y.1 : Nat) : Int) + ((Builtin.Int.intBits y.2 : Nat) : Int))) + (4 : Int)) ∧ (((2 : Int) * (((Builtin.Int.intBits y.1 : Nat) : Int) + ((Builtin.Int.intBits y.2 : Nat) : Int))) + (4 : Int)) < 2 ^ 62) ∧ (WFor (rng 0 ((((2 : Int) * (((Builtin.Int.intBits y.1 : Nat) : Int) + ((Builtin.Int.intBits y.2 : Nat) : Int))) + (4 : Int))).toNat) (y.1, y.2) (fun (nx3 : (Int × Int) → Prop) (s1 : Int × Int) x2 => if (decide (s1.2 = (0 : Int))) = true then (k s1.1) else (0 < s1.2 ∧ ((Bnd s1.2 fun one_5 => (Bnd (s1.1 % s1.2) fun other_6 => nx3 (one_5, other_6)))))) (fun (s1 : Int × Int) => k s1.1)))
theorem fo_law_gcd {fd : FuncData} (T : Txt K mg) (F : FunD K "_law_gcd" "_law_gcd" (defArgs s_law_gcd) (defBody s_law_gcd) (defScope s_law_gcd) [] [] (He.fAd K ("_law_gcd", none)) fd) : FnOk P w K mg base CX0 1 (He.fAd K ("_law_gcd", none)) fd ["one", "other"] (spP (Row.cons tyI (Row.one tyI)) tyI (w_law_gcd)) :=
  fn_P (Γ0 := fun y => [.fz tyI y.1, .fz tyI y.2, .no]) (kn := fun _ => False) F sc_law_gcd rfl (Nat.le_of_ble_eq_true rfl) (rsl_cons rsl_one) (fun _ => rfl) (fun _ _ h => h.elim) (fun cdv A outer s H E hr y k => (y_for (Γ := [.fz tyI y.1, .fz tyI y.2, .no]) (ΓT := fun (s1 : Int × Int) (x2 : Int) => [.fz tyI s1.1, .fz tyI s1.2, .fz tyI x2]) (fun s1 : Int × Int => [.fz tyI s1.1, .fz tyI s1.2, .no]) (y.1, y.2) PassesOwn.never rfl (xi_range T.l_range (xe_add (xe_mul xe_int (xe_add (xe_bits (xe_var 0 rfl rfl (.inl rfl))) (xe_bits (xe_var 1 rfl rfl (.inl rfl))))) xe_int)) (Cv.refl _) (fun s1 => (xg_name 2 sc_law_gcd.nd rfl (.inl rfl))) id (fun nx3 s1 x2 => by exact (y_if1 (Γ := [.fz tyI s1.1, .fz tyI s1.2, .fz tyI x2]) (xt_eq (xe_var 1 rfl rfl (.inl rfl)) xe_int) id (by exact (y_ret (Γ := [.fz tyI s1.1, .fz tyI s1.2, .fz tyI x2]) (xe_var 0 rfl rfl (.inl rfl)) id)) (by exact (y_par (Γ := [.fz tyI s1.1, .fz tyI s1.2, .fz tyI x2]) 0 1 sc_law_gcd.nd rfl rfl (by decide) rfl rfl rfl (xe_var 1 rfl rfl (.inl rfl)) (xe_mod (xe_int1 T.l_int (xe_var 0 rfl rfl (.inl rfl))) (xe_var 1 rfl rfl (.inl rfl))) rfl id (fun one_5 other_6 => (y_join (ΓJ := fun s1 : Int × Int => [.fz tyI s1.1, .fz tyI s1.2, .no]) (one_5, other_6) (Wk.cv (.same (.same (.no .nil)))) rfl id)))))) (fun s1 => by exact (y_ret (Γ := [.fz tyI s1.1, .fz tyI s1.2, .no]) (xe_var 0 rfl rfl (.inl rfl)) id))))
theorem ok_law_gcd (T : Txt K mg) : Cle P w K mg base "_law_gcd" 1 (spP (Row.cons tyI (Row.one tyI)) tyI (w_law_gcd)) :=
  let ⟨_, F⟩ := T.f_law_gcd
  ⟨_, _, _, fo_law_gcd T F, T.g_law_gcd, F.kp, F.bindsN (fun _ _ _ _ _ _ us hl => match us, hl with | [_, _], _ => rfl)⟩
/-! _law_words -/
theorem sc_law_words : FnScope ["spec", "length", "unit", "row", "total", "found", "k", "longer", "text", "at", "weight", "sign", "pair", "word"] ["spec", "length"] (defScope s_law_words) := ⟨rfl, rfl, rfl, by decide +kernel, rfl, by decide +kernel, by decide +kernel⟩
def w_law_words (y : (Str × Int × (List (List (Int × Int))) × Int) × Int) (k : List (Str × Int) → Prop) : Prop :=
  (Bnd (1 : Int) fun unit_1 => WFor y.1.2.2.1 unit_1 (fun (nx4 : Int → Prop) (s2 : Int) x3 => (x3).length < sizeLine ∧ ((Bnd (((x3.map fun x6 => x6.1)).sum) fun total_7 => CMulW s2 total_7 ∧ (w_law_gcd (s2, total_7) (fun r8 => CDivW (s2 * total_7) r8 ∧ ((Bnd ((s2 * total_7) / r8) fun unit_9 => nx4 unit_9))))))) (fun (s2 : Int) => (Bnd [(("" : Str), y.1.2.1, (1 : Int))] fun found_10 => (-(2 ^ 62) ≤ y.2 ∧ y.2 < 2 ^ 62) ∧ (WFor (rng 0 (y.2).toNat) found_10 (fun (nx13 : ((List (Str × Int × Int))) → Prop) (s11 : (List (Str × Int × Int))) x12 => (Bnd ([] : List (Str × Int × Int)) fun longer_15 => WFor s11 longer_15 (fun (nx18 : ((List (Str × Int × Int))) → Prop) (s16 : (List (Str × Int × Int))) x17 => ∃ y20, atI y.1.2.2.1 x17.2.1 = some y20 ∧ ((y20).length < sizeLine ∧ ((Bnd (((y20.map fun x21 => x21.1)).sum) fun total_22 => ∃ y23, atI y.1.2.2.1 x17.2.1 = some y23 ∧ (WFor ((signs y.1.1).zip y23) s16 (fun (nx26 : ((List (Str × Int × Int))) → Prop) (s24 : (List (Str × Int × Int))) x25 => (Jn (fun s28 : (List (Str × Int × Int)) => nx26 s28) fun j29 => if (decide ((0 : Int) < x25.2.1)) = true then ((x17.1).length + (x25.1).length ≤ sizeLine ∧ (CMulW x17.2.2 x25.2.1 ∧ (CDivW s2 total_22 ∧ (CMulW (x17.2.2 * x25.2.1) (s2 / total_22) ∧ ((s24).length < sizeLine ∧ ((Bnd ((x17.1 ++ x25.1), x25.2.2, ((x17.2.2 * x25.2.1) * (s2 / total_22))) fun y30 => j29 (s24 ++ [y30])))))))) else (j29 s24))) (fun (s24 : (List (Str × Int × Int))) => nx18 s24)))))) (fun (s16 : (List (Str × Int × Int))) => (Bnd s16 fun found_31 => nx13 found_31)))) (fun (s11 : (List (Str × Int × Int))) => (s11).length < sizeLine ∧ (k (s11.map fun x32 => (x32.1, x32.2.2))))))))
theorem fo_law_words {fd : FuncData} (T : Txt K mg) (F : FunD K "_law_words" "_law_words" (defArgs s_law_words) (defBody s_law_words) (defScope s_law_words) [] [] (He.fAd K ("_law_words", none)) fd) : FnOk P w K mg base CX0 2 (He.fAd K ("_law_words", none)) fd ["spec", "length"] (spP (Row.cons (tyM (Row.cons tyS (Row.cons tyI (Row.cons (tyL (tyL (tyT (Row.cons tyI (Row.one tyI))))) (Row.one tyI))))) (Row.one tyI)) (tyL (tyT (Row.cons tyS (Row.one tyI)))) (w_law_words)) :=
  fn_P (Γ0 := fun y => [.fz (tyM (Row.cons tyS (Row.cons tyI (Row.cons (tyL (tyL (tyT (Row.cons tyI (Row.one tyI))))) (Row.one tyI))))) y.1, .fz tyI y.2, .no, .no, .no, .no, .no, .no, .no, .no, .no, .no, .no, .no]) (kn := fun _ => False) F sc_law_words rfl (Nat.le_of_ble_eq_true rfl) (rsl_cons rsl_one) (fun _ => rfl) (fun _ _ h => h.elim) (fun cdv A outer s H E hr y k => (y_set (Γ := [.fz (tyM (Row.cons tyS (Row.cons tyI (Row.cons (tyL (tyL (tyT (Row.cons tyI (Row.one tyI))))) (Row.one tyI))))) y.1, .fz tyI y.2, .no, .no, .no, .no, .no, .no, .no, .no, .no, .no, .no, .no]) 2 sc_law_words.nd rfl (.inl rfl) xe_int id (fun unit_1 => (y_for (Γ := [.fz (tyM (Row.cons tyS (Row.cons tyI (Row.cons (tyL (tyL (tyT (Row.cons tyI (Row.one tyI))))) (Row.one tyI))))) y.1, .fz tyI y.2, .fz tyI unit_1, .no, .no, .no, .no, .no, .no, .no, .no, .no, .no, .no]) (ΓT := fun (s2 : Int) (x3 : List (Int × Int)) => [.fz (tyM (Row.cons tyS (Row.cons tyI (Row.cons (tyL (tyL (tyT (Row.cons tyI (Row.one tyI))))) (Row.one tyI))))) y.1, .fz tyI y.2, .fz tyI s2, .fz (tyL (tyT (Row.cons tyI (Row.one tyI)))) x3, .no, .no, .no, .no, .no, .no, .no, .no, .no, .no]) (fun s2 : Int => [.fz (tyM (Row.cons tyS (Row.cons tyI (Row.cons (tyL (tyL (tyT (Row.cons tyI (Row.one tyI))))) (Row.one tyI))))) y.1, .fz tyI y.2, .fz tyI s2, .no, .no, .no, .no, .no, .no, .no, .no, .no, .no, .no]) unit_1 PassesOwn.never rfl (xi_list (xe_itM (xe_var 0 rfl rfl (.inl rfl)) (ra_succ (ra_succ ra_zero)) xe_int (fun _ _ => rfl))) (Cv.refl _) (fun s2 => (xg_name 3 sc_law_words.nd rfl (.inl rfl))) id (fun nx4 s2 x3 => by exact (y_set (Γ := [.fz (tyM (Row.cons tyS (Row.cons tyI (Row.cons (tyL (tyL (tyT (Row.cons tyI (Row.one tyI))))) (Row.one tyI))))) y.1, .fz tyI y.2, .fz tyI s2, .fz (tyL (tyT (Row.cons tyI (Row.one tyI)))) x3, .no, .no, .no, .no, .no, .no, .no, .no, .no, .no]) 4 sc_law_words.nd rfl (.inl rfl) (xe_sum rfl T.l_sum (xl_of (xe_f (xf_c (xc_lcm (f := fun x6 => x6.1) (B := tyI) (ΓT := fun (x6 : Int × Int) => [.fz (tyM (Row.cons tyS (Row.cons tyI (Row.cons (tyL (tyL (tyT (Row.cons tyI (Row.one tyI))))) (Row.one tyI))))) y.1, .fz tyI y.2, .fz tyI s2, .fz (tyL (tyT (Row.cons tyI (Row.one tyI)))) x3, .no, .no, .no, .no, .no, .no, .no, .no, .fz (tyT (Row.cons tyI (Row.one tyI))) x6, .no]) [("pair", 12)] rfl sc_law_words.nd (xi_list (xe_var 3 rfl rfl (.inl rfl))) (by show blkC ["spec", "length", "unit", "row", "total", "found", "k", "longer", "text", "at", "weight", "sign", "pair", "word"] (defScope s_law_words) _ [("pair", 12)] = true; decide +kernel) (fun _ _ _ _ _ => (xg_name 12 sc_law_words.nd rfl (.inl rfl))) (by decide) (fun _ _ _ _ _ x6 => (xe_itT (xe_var 12 rfl rfl (.inl rfl)) ra_zero xe_int (fun _ _ => rfl))) rfl))))) id (fun total_7 => (y_set (Γ := [.fz (tyM (Row.cons tyS (Row.cons tyI (Row.cons (tyL (tyL (tyT (Row.cons tyI (Row.one tyI))))) (Row.one tyI))))) y.1, .fz tyI y.2, .fz tyI s2, .fz (tyL (tyT (Row.cons tyI (Row.one tyI)))) x3, .fz tyI total_7, .no, .no, .no, .no, .no, .no, .no, .no, .no]) 2 sc_law_words.nd rfl (.inl rfl) (xe_fdiv (xe_mul (xe_var 2 rfl rfl (.inl rfl)) (xe_var 4 rfl rfl (.inl rfl))) (xe_call (ok_law_gcd T) (hr.mono (by decide)) (xa_cons (xe_var 2 rfl rfl (.inl rfl)) (xa_one (xe_var 4 rfl rfl (.inl rfl)))))) id (fun unit_9 => (y_join (ΓJ := fun s2 : Int => [.fz (tyM (Row.cons tyS (Row.cons tyI (Row.cons (tyL (tyL (tyT (Row.cons tyI (Row.one tyI))))) (Row.one tyI))))) y.1, .fz tyI y.2, .fz tyI s2, .no, .no, .no, .no, .no, .no, .no, .no, .no, .no, .no]) unit_9 (Wk.cv (.same (.same (.same (.no (.no (.same (.same (.same (.same (.same (.same (.same (.same (.same .nil))))))))))))))) rfl id)))))) (fun s2 => by exact (y_set (Γ := [.fz (tyM (Row.cons tyS (Row.cons tyI (Row.cons (tyL (tyL (tyT (Row.cons tyI (Row.one tyI))))) (Row.one tyI))))) y.1, .fz tyI y.2, .fz tyI s2, .no, .no, .no, .no, .no, .no, .no, .no, .no, .no, .no]) 5 sc_law_words.nd rfl (.inl rfl) (xe_f (xf_lst (A := (tyT (Row.cons tyS (Row.cons tyI (Row.one tyI))))) (xa_conss (xe_tup (xa_cons xe_str (xa_cons (xe_itM (xe_var 0 rfl rfl (.inl rfl)) (ra_succ ra_zero) xe_int (fun _ _ => rfl)) (xa_one xe_int)))) (xa_nils (A := (tyT (Row.cons tyS (Row.cons tyI (Row.one tyI))))))))) id (fun found_10 => (y_for (Γ := [.fz (tyM (Row.cons tyS (Row.cons tyI (Row.cons (tyL (tyL (tyT (Row.cons tyI (Row.one tyI))))) (Row.one tyI))))) y.1, .fz tyI y.2, .fz tyI s2, .no, .no, .fz (tyL (tyT (Row.cons tyS (Row.cons tyI (Row.one tyI))))) found_10, .no, .no, .no, .no, .no, .no, .no, .no]) (ΓT := fun (s11 : (List (Str × Int × Int))) (x12 : Int) => [.fz (tyM (Row.cons tyS (Row.cons tyI (Row.cons (tyL (tyL (tyT (Row.cons tyI (Row.one tyI))))) (Row.one tyI))))) y.1, .fz tyI y.2, .fz tyI s2, .no, .no, .fz (tyL (tyT (Row.cons tyS (Row.cons tyI (Row.one tyI))))) s11, .fz tyI x12, .no, .no, .no, .no, .no, .no, .no]) (fun s11 : (List (Str × Int × Int)) => [.fz (tyM (Row.cons tyS (Row.cons tyI (Row.cons (tyL (tyL (tyT (Row.cons tyI (Row.one tyI))))) (Row.one tyI))))) y.1, .fz tyI y.2, .fz tyI s2, .no, .no, .fz (tyL (tyT (Row.cons tyS (Row.cons tyI (Row.one tyI))))) s11, .no, .no, .no, .no, .no, .no, .no, .no]) found_10 PassesOwn.never rfl (xi_range T.l_range (xe_var 1 rfl rfl (.inl rfl))) (Cv.refl _) (fun s11 => (xg_name 6 sc_law_words.nd rfl (.inl rfl))) id (fun nx13 s11 x12 => by exact (y_setF (Γ := [.fz (tyM (Row.cons tyS (Row.cons tyI (Row.cons (tyL (tyL (tyT (Row.cons tyI (Row.one tyI))))) (Row.one tyI))))) y.1, .fz tyI y.2, .fz tyI s2, .no, .no, .fz (tyL (tyT (Row.cons tyS (Row.cons tyI (Row.one tyI))))) s11, .fz tyI x12, .no, .no, .no, .no, .no, .no, .no]) 7 sc_law_words.nd rfl (.inl rfl) (xf_nil (A := (tyT (Row.cons tyS (Row.cons tyI (Row.one tyI)))))) id (fun longer_15 => (y_for (Γ := [.fz (tyM (Row.cons tyS (Row.cons tyI (Row.cons (tyL (tyL (tyT (Row.cons tyI (Row.one tyI))))) (Row.one tyI))))) y.1, .fz tyI y.2, .fz tyI s2, .no, .no, .fz (tyL (tyT (Row.cons tyS (Row.cons tyI (Row.one tyI))))) s11, .fz tyI x12, .ml (tyT (Row.cons tyS (Row.cons tyI (Row.one tyI)))) longer_15, .no, .no, .no, .no, .no, .no]) (ΓT := fun (s16 : (List (Str × Int × Int))) (x17 : Str × Int × Int) => [.fz (tyM (Row.cons tyS (Row.cons tyI (Row.cons (tyL (tyL (tyT (Row.cons tyI (Row.one tyI))))) (Row.one tyI))))) y.1, .fz tyI y.2, .fz tyI s2, .no, .no, .fz (tyL (tyT (Row.cons tyS (Row.cons tyI (Row.one tyI))))) s11, .fz tyI x12, .ml (tyT (Row.cons tyS (Row.cons tyI (Row.one tyI)))) s16, .fz tyS x17.1, .fz tyI x17.2.1, .fz tyI x17.2.2, .no, .no, .no]) (fun s16 : (List (Str × Int × Int)) => [.fz (tyM (Row.cons tyS (Row.cons tyI (Row.cons (tyL (tyL (tyT (Row.cons tyI (Row.one tyI))))) (Row.one tyI))))) y.1, .fz tyI y.2, .fz tyI s2, .no, .no, .fz (tyL (tyT (Row.cons tyS (Row.cons tyI (Row.one tyI))))) s11, .fz tyI x12, .ml (tyT (Row.cons tyS (Row.cons tyI (Row.one tyI)))) s16, .no, .no, .no, .no, .no, .no]) longer_15 PassesOwn.never rfl (xi_list (xe_var 5 rfl rfl (.inl rfl))) (Cv.refl _) (fun s16 => (xg_tup rfl (xgs_cons (xg_name 8 sc_law_words.nd rfl (.inl rfl)) (fun _ => (xgs_cons (xg_name 9 sc_law_words.nd rfl (.inl rfl)) (fun _ => (xgs_one (xg_name 10 sc_law_words.nd rfl (.inl rfl))))))))) id (fun nx18 s16 x17 => by exact (y_set (Γ := [.fz (tyM (Row.cons tyS (Row.cons tyI (Row.cons (tyL (tyL (tyT (Row.cons tyI (Row.one tyI))))) (Row.one tyI))))) y.1, .fz tyI y.2, .fz tyI s2, .no, .no, .fz (tyL (tyT (Row.cons tyS (Row.cons tyI (Row.one tyI))))) s11, .fz tyI x12, .ml (tyT (Row.cons tyS (Row.cons tyI (Row.one tyI)))) s16, .fz tyS x17.1, .fz tyI x17.2.1, .fz tyI x17.2.2, .no, .no, .no]) 4 sc_law_words.nd rfl (.inl rfl) (xe_sum rfl T.l_sum (xl_of (xe_f (xf_c (xc_lcm (f := fun x21 => x21.1) (B := tyI) (ΓT := fun (x21 : Int × Int) => [.fz (tyM (Row.cons tyS (Row.cons tyI (Row.cons (tyL (tyL (tyT (Row.cons tyI (Row.one tyI))))) (Row.one tyI))))) y.1, .fz tyI y.2, .fz tyI s2, .no, .no, .fz (tyL (tyT (Row.cons tyS (Row.cons tyI (Row.one tyI))))) s11, .fz tyI x12, .ml (tyT (Row.cons tyS (Row.cons tyI (Row.one tyI)))) s16, .fz tyS x17.1, .fz tyI x17.2.1, .fz tyI x17.2.2, .no, .fz (tyT (Row.cons tyI (Row.one tyI))) x21, .no]) [("pair", 12)] rfl sc_law_words.nd (xi_list (xe_ix (xl_of (xe_itM (xe_var 0 rfl rfl (.inl rfl)) (ra_succ (ra_succ ra_zero)) xe_int (fun _ _ => rfl))) (xe_var 9 rfl rfl (.inl rfl)) (fun _ _ => rfl))) (by show blkC ["spec", "length", "unit", "row", "total", "found", "k", "longer", "text", "at", "weight", "sign", "pair", "word"] (defScope s_law_words) _ [("pair", 12)] = true; decide +kernel) (fun _ _ _ _ _ => (xg_name 12 sc_law_words.nd rfl (.inl rfl))) (by decide) (fun _ _ _ _ _ x21 => (xe_itT (xe_var 12 rfl rfl (.inl rfl)) ra_zero xe_int (fun _ _ => rfl))) rfl))))) id (fun total_22 => (y_for (Γ := [.fz (tyM (Row.cons tyS (Row.cons tyI (Row.cons (tyL (tyL (tyT (Row.cons tyI (Row.one tyI))))) (Row.one tyI))))) y.1, .fz tyI y.2, .fz tyI s2, .no, .fz tyI total_22, .fz (tyL (tyT (Row.cons tyS (Row.cons tyI (Row.one tyI))))) s11, .fz tyI x12, .ml (tyT (Row.cons tyS (Row.cons tyI (Row.one tyI)))) s16, .fz tyS x17.1, .fz tyI x17.2.1, .fz tyI x17.2.2, .no, .no, .no]) (ΓT := fun (s24 : (List (Str × Int × Int))) (x25 : Str × (Int × Int)) => [.fz (tyM (Row.cons tyS (Row.cons tyI (Row.cons (tyL (tyL (tyT (Row.cons tyI (Row.one tyI))))) (Row.one tyI))))) y.1, .fz tyI y.2, .fz tyI s2, .no, .fz tyI total_22, .fz (tyL (tyT (Row.cons tyS (Row.cons tyI (Row.one tyI))))) s11, .fz tyI x12, .ml (tyT (Row.cons tyS (Row.cons tyI (Row.one tyI)))) s24, .fz tyS x17.1, .fz tyI x17.2.1, .fz tyI x17.2.2, .fz tyS x25.1, .fz (tyT (Row.cons tyI (Row.one tyI))) x25.2, .no]) (fun s24 : (List (Str × Int × Int)) => [.fz (tyM (Row.cons tyS (Row.cons tyI (Row.cons (tyL (tyL (tyT (Row.cons tyI (Row.one tyI))))) (Row.one tyI))))) y.1, .fz tyI y.2, .fz tyI s2, .no, .fz tyI total_22, .fz (tyL (tyT (Row.cons tyS (Row.cons tyI (Row.one tyI))))) s11, .fz tyI x12, .ml (tyT (Row.cons tyS (Row.cons tyI (Row.one tyI)))) s24, .fz tyS x17.1, .fz tyI x17.2.1, .fz tyI x17.2.2, .no, .no, .no]) s16 PassesOwn.never rfl (xi_zip T.l_zip (xe_itM (xe_var 0 rfl rfl (.inl rfl)) ra_zero xe_int (fun _ _ => rfl)) (xe_ix (xl_of (xe_itM (xe_var 0 rfl rfl (.inl rfl)) (ra_succ (ra_succ ra_zero)) xe_int (fun _ _ => rfl))) (xe_var 9 rfl rfl (.inl rfl)) (fun _ _ => rfl))) (Cv.refl _) (fun s24 => (xg_tup rfl (xgs_cons (xg_name 11 sc_law_words.nd rfl (.inl rfl)) (fun _ => (xgs_one (xg_name 12 sc_law_words.nd rfl (.inl rfl))))))) id (fun nx26 s24 x25 => by exact (y_if (Γ := [.fz (tyM (Row.cons tyS (Row.cons tyI (Row.cons (tyL (tyL (tyT (Row.cons tyI (Row.one tyI))))) (Row.one tyI))))) y.1, .fz tyI y.2, .fz tyI s2, .no, .fz tyI total_22, .fz (tyL (tyT (Row.cons tyS (Row.cons tyI (Row.one tyI))))) s11, .fz tyI x12, .ml (tyT (Row.cons tyS (Row.cons tyI (Row.one tyI)))) s24, .fz tyS x17.1, .fz tyI x17.2.1, .fz tyI x17.2.2, .fz tyS x25.1, .fz (tyT (Row.cons tyI (Row.one tyI))) x25.2, .no]) (fun s28 : (List (Str × Int × Int)) => [.fz (tyM (Row.cons tyS (Row.cons tyI (Row.cons (tyL (tyL (tyT (Row.cons tyI (Row.one tyI))))) (Row.one tyI))))) y.1, .fz tyI y.2, .fz tyI s2, .no, .fz tyI total_22, .fz (tyL (tyT (Row.cons tyS (Row.cons tyI (Row.one tyI))))) s11, .fz tyI x12, .ml (tyT (Row.cons tyS (Row.cons tyI (Row.one tyI)))) s28, .fz tyS x17.1, .fz tyI x17.2.1, .fz tyI x17.2.2, .fz tyS x25.1, .fz (tyT (Row.cons tyI (Row.one tyI))) x25.2, .no]) (xt_gt (xe_itT (xe_var 12 rfl rfl (.inl rfl)) ra_zero xe_int (fun _ _ => rfl)) xe_int) id (fun j29 => by exact (y_app (Γ := [.fz (tyM (Row.cons tyS (Row.cons tyI (Row.cons (tyL (tyL (tyT (Row.cons tyI (Row.one tyI))))) (Row.one tyI))))) y.1, .fz tyI y.2, .fz tyI s2, .no, .fz tyI total_22, .fz (tyL (tyT (Row.cons tyS (Row.cons tyI (Row.one tyI))))) s11, .fz tyI x12, .ml (tyT (Row.cons tyS (Row.cons tyI (Row.one tyI)))) s24, .fz tyS x17.1, .fz tyI x17.2.1, .fz tyI x17.2.2, .fz tyS x25.1, .fz (tyT (Row.cons tyI (Row.one tyI))) x25.2, .no]) 7 rfl rfl (.inl rfl) (xe_tup (xa_cons (xe_addS (xe_var 8 rfl rfl (.inl rfl)) (xe_var 11 rfl rfl (.inl rfl))) (xa_cons (xe_itT (xe_var 12 rfl rfl (.inl rfl)) (ra_succ ra_one) xe_int (fun _ _ => rfl)) (xa_one (xe_mul (xe_mul (xe_var 10 rfl rfl (.inl rfl)) (xe_itT (xe_var 12 rfl rfl (.inl rfl)) ra_zero xe_int (fun _ _ => rfl))) (xe_fdiv (xe_var 2 rfl rfl (.inl rfl)) (xe_var 4 rfl rfl (.inl rfl)))))))) id (fun y30 => (y_join (ΓJ := fun s28 : (List (Str × Int × Int)) => [.fz (tyM (Row.cons tyS (Row.cons tyI (Row.cons (tyL (tyL (tyT (Row.cons tyI (Row.one tyI))))) (Row.one tyI))))) y.1, .fz tyI y.2, .fz tyI s2, .no, .fz tyI total_22, .fz (tyL (tyT (Row.cons tyS (Row.cons tyI (Row.one tyI))))) s11, .fz tyI x12, .ml (tyT (Row.cons tyS (Row.cons tyI (Row.one tyI)))) s28, .fz tyS x17.1, .fz tyI x17.2.1, .fz tyI x17.2.2, .fz tyS x25.1, .fz (tyT (Row.cons tyI (Row.one tyI))) x25.2, .no]) (s24 ++ [y30]) (Cv.refl _) rfl id)))) (fun j29 => by exact (y_join (ΓJ := fun s28 : (List (Str × Int × Int)) => [.fz (tyM (Row.cons tyS (Row.cons tyI (Row.cons (tyL (tyL (tyT (Row.cons tyI (Row.one tyI))))) (Row.one tyI))))) y.1, .fz tyI y.2, .fz tyI s2, .no, .fz tyI total_22, .fz (tyL (tyT (Row.cons tyS (Row.cons tyI (Row.one tyI))))) s11, .fz tyI x12, .ml (tyT (Row.cons tyS (Row.cons tyI (Row.one tyI)))) s28, .fz tyS x17.1, .fz tyI x17.2.1, .fz tyI x17.2.2, .fz tyS x25.1, .fz (tyT (Row.cons tyI (Row.one tyI))) x25.2, .no]) s24 (Cv.refl _) rfl id)) (fun s28 => by exact (y_join (ΓJ := fun s24 : (List (Str × Int × Int)) => [.fz (tyM (Row.cons tyS (Row.cons tyI (Row.cons (tyL (tyL (tyT (Row.cons tyI (Row.one tyI))))) (Row.one tyI))))) y.1, .fz tyI y.2, .fz tyI s2, .no, .fz tyI total_22, .fz (tyL (tyT (Row.cons tyS (Row.cons tyI (Row.one tyI))))) s11, .fz tyI x12, .ml (tyT (Row.cons tyS (Row.cons tyI (Row.one tyI)))) s24, .fz tyS x17.1, .fz tyI x17.2.1, .fz tyI x17.2.2, .no, .no, .no]) s28 (Wk.cv (.same (.same (.same (.same (.same (.same (.same (.same (.same (.same (.same (.no (.no (.same .nil))))))))))))))) rfl id)))) (fun s24 => by exact (y_join (ΓJ := fun s16 : (List (Str × Int × Int)) => [.fz (tyM (Row.cons tyS (Row.cons tyI (Row.cons (tyL (tyL (tyT (Row.cons tyI (Row.one tyI))))) (Row.one tyI))))) y.1, .fz tyI y.2, .fz tyI s2, .no, .no, .fz (tyL (tyT (Row.cons tyS (Row.cons tyI (Row.one tyI))))) s11, .fz tyI x12, .ml (tyT (Row.cons tyS (Row.cons tyI (Row.one tyI)))) s16, .no, .no, .no, .no, .no, .no]) s24 (Wk.cv (.same (.same (.same (.same (.no (.same (.same (.same (.no (.no (.no (.same (.same (.same .nil))))))))))))))) rfl id)))))) (fun s16 => by exact (xb_cv (cv_ml 7 rfl) (y_set (Γ := [.fz (tyM (Row.cons tyS (Row.cons tyI (Row.cons (tyL (tyL (tyT (Row.cons tyI (Row.one tyI))))) (Row.one tyI))))) y.1, .fz tyI y.2, .fz tyI s2, .no, .no, .fz (tyL (tyT (Row.cons tyS (Row.cons tyI (Row.one tyI))))) s11, .fz tyI x12, .fz (tyL (tyT (Row.cons tyS (Row.cons tyI (Row.one tyI))))) s16, .no, .no, .no, .no, .no, .no]) 5 sc_law_words.nd rfl (.inl rfl) (xe_var 7 rfl rfl (.inl rfl)) id (fun found_31 => (y_join (ΓJ := fun s11 : (List (Str × Int × Int)) => [.fz (tyM (Row.cons tyS (Row.cons tyI (Row.cons (tyL (tyL (tyT (Row.cons tyI (Row.one tyI))))) (Row.one tyI))))) y.1, .fz tyI y.2, .fz tyI s2, .no, .no, .fz (tyL (tyT (Row.cons tyS (Row.cons tyI (Row.one tyI))))) s11, .no, .no, .no, .no, .no, .no, .no, .no]) found_31 (Wk.cv (.same (.same (.same (.same (.same (.same (.no (.no (.same (.same (.same (.same (.same (.same .nil))))))))))))))) rfl id))))))))) (fun s11 => by exact (y_ret (Γ := [.fz (tyM (Row.cons tyS (Row.cons tyI (Row.cons (tyL (tyL (tyT (Row.cons tyI (Row.one tyI))))) (Row.one tyI))))) y.1, .fz tyI y.2, .fz tyI s2, .no, .no, .fz (tyL (tyT (Row.cons tyS (Row.cons tyI (Row.one tyI))))) s11, .no, .no, .no, .no, .no, .no, .no, .no]) (xe_f (xf_c (xc_lcm (f := fun x32 => (x32.1, x32.2.2)) (B := (tyT (Row.cons tyS (Row.one tyI)))) (ΓT := fun (x32 : Str × Int × Int) => [.fz (tyM (Row.cons tyS (Row.cons tyI (Row.cons (tyL (tyL (tyT (Row.cons tyI (Row.one tyI))))) (Row.one tyI))))) y.1, .fz tyI y.2, .fz tyI s2, .no, .no, .fz (tyL (tyT (Row.cons tyS (Row.cons tyI (Row.one tyI))))) s11, .no, .no, .no, .no, .no, .no, .no, .fz (tyT (Row.cons tyS (Row.cons tyI (Row.one tyI)))) x32]) [("word", 13)] rfl sc_law_words.nd (xi_list (xe_var 5 rfl rfl (.inl rfl))) (by show blkC ["spec", "length", "unit", "row", "total", "found", "k", "longer", "text", "at", "weight", "sign", "pair", "word"] (defScope s_law_words) _ [("word", 13)] = true; decide +kernel) (fun _ _ _ _ _ => (xg_name 13 sc_law_words.nd rfl (.inl rfl))) (by decide) (fun _ _ _ _ _ x32 => (xe_tup (xa_cons (xe_itT (xe_var 13 rfl rfl (.inl rfl)) ra_zero xe_int (fun _ _ => rfl)) (xa_one (xe_itT (xe_var 13 rfl rfl (.inl rfl)) (ra_succ (ra_succ ra_one)) xe_int (fun _ _ => rfl)))))) rfl))) id))))))))))
theorem ok_law_words (T : Txt K mg) : Cle P w K mg base "_law_words" 2 (spP (Row.cons (tyM (Row.cons tyS (Row.cons tyI (Row.cons (tyL (tyL (tyT (Row.cons tyI (Row.one tyI))))) (Row.one tyI))))) (Row.one tyI)) (tyL (tyT (Row.cons tyS (Row.one tyI)))) (w_law_words)) :=
  let ⟨_, F⟩ := T.f_law_words
  ⟨_, _, _, fo_law_words T F, T.g_law_words, F.kp, F.bindsN (fun _ _ _ _ _ _ us hl => match us, hl with | [_, _], _ => rfl)⟩
/-! _law_source -/
theorem sc_law_source : FnScope ["state", "most", "spec", "length", "k", "pairs"] ["state", "most"] (defScope s_law_source) := ⟨rfl, rfl, rfl, by decide +kernel, rfl, by decide +kernel, by decide +kernel⟩
def w_law_source (y : Int) (k : (((List (Str × (Int))) × Int)) × (List (Str × Int)) → Prop) : Prop :=
  w_law_draw (4 : Int) (fun r1 => if (decide (r1 = (0 : Int))) = true then (w_law_spec () (fun r2 => (Bnd r2 fun spec_3 => (Bnd spec_3.2.2.2 fun length_4 => (-(2 ^ 62) ≤ (3 : Int) ∧ (3 : Int) < 2 ^ 62) ∧ (WFor (rng 0 ((3 : Int)).toNat) length_4 (fun (nx7 : Int → Prop) (s5 : Int) x6 => (Jn (fun s12 : Int => nx7 s12) fun j13 => (let kk11 : Bool → Prop := fun q10 => if q10 = true then (Bnd (s5 - (1 : Int)) fun length_14 => j13 length_14) else (j13 s5); if (decide ((0 : Int) < s5)) = true then (w_law_words (spec_3, s5) (fun r9 => kk11 (decide (y < ((r9).length : Int))))) else kk11 false))) (fun (s5 : Int) => w_Machine___init__ (spec_3.1, spec_3.2.1, spec_3.2.2.1, s5) (fun r15 => w_law_words (spec_3, s5) (fun r16 => k ((g_Src r15), r16))))))))) else (w_law_pairs y (fun r17 => (Bnd r17 fun pairs_18 => w_Table___init__ pairs_18 (fun r19 => k (r19, (sortB (OrdTy.lt (tyT (Row.cons tyS (Row.one tyI)))) pairs_18)))))))
theorem fo_law_source {fd : FuncData} (T : Txt K mg) (F : FunD K "_law_source" "_law_source" (defArgs s_law_source) (defBody s_law_source) (defScope s_law_source) [] [] (He.fAd K ("_law_source", none)) fd) : FnOk P w K mg base CX0 5 (He.fAd K ("_law_source", none)) fd ["state", "most"] (spS (zmR Rst Ist) (Row.one tyI) (tyM (Row.cons (tyEi (tyO (He.ga K "Table") ns_Table (Row.cons (tyD tyI) (Row.one tyI))) (tyO (He.ga K "Machine") ns_Machine (Row.cons tyS (Row.cons tyI (Row.cons (tyP (tyP (tyT (Row.cons tyI (Row.one tyI))))) (Row.cons tyI (Row.cons tyI (Row.cons tyI (Row.one (tyD tyI))))))))) g_Src) (Row.one (tyL (tyT (Row.cons tyS (Row.one tyI))))))) (w_law_source)) :=
  fn_S (Γ0 := fun y => [.st, .fz tyI y, .no, .no, .no, .no]) (kn := fun _ => False) F sc_law_source rfl (Nat.le_of_ble_eq_true rfl) rsl_one (fun _ => rfl) (fun _ _ h => h.elim) (fun cdv A outer s H E hr st y k => (y_if1 (Γ := [.st, .fz tyI y, .no, .no, .no, .no]) (xt_eq (xe_callS 0 rfl rfl (.inl rfl) (ok_law_draw T) (hr.mono (by decide)) (xa_one xe_int)) xe_int) id (by exact (y_set (Γ := [.st, .fz tyI y, .no, .no, .no, .no]) 2 sc_law_source.nd rfl (.inl rfl) (xe_callS 0 rfl rfl (.inl rfl) (ok_law_spec T) (hr.mono (by decide)) xa_nil) id (fun spec_3 => (y_set (Γ := [.st, .fz tyI y, .fz (tyM (Row.cons tyS (Row.cons tyI (Row.cons (tyL (tyL (tyT (Row.cons tyI (Row.one tyI))))) (Row.one tyI))))) spec_3, .no, .no, .no]) 3 sc_law_source.nd rfl (.inl rfl) (xe_itM (xe_var 2 rfl rfl (.inl rfl)) (ra_succ (ra_succ (ra_succ ra_one))) xe_int (fun _ _ => rfl)) id (fun length_4 => (y_for (Γ := [.st, .fz tyI y, .fz (tyM (Row.cons tyS (Row.cons tyI (Row.cons (tyL (tyL (tyT (Row.cons tyI (Row.one tyI))))) (Row.one tyI))))) spec_3, .fz tyI length_4, .no, .no]) (ΓT := fun (s5 : Int) (x6 : Int) => [.st, .fz tyI y, .fz (tyM (Row.cons tyS (Row.cons tyI (Row.cons (tyL (tyL (tyT (Row.cons tyI (Row.one tyI))))) (Row.one tyI))))) spec_3, .fz tyI s5, .fz tyI x6, .no]) (fun s5 : Int => [.st, .fz tyI y, .fz (tyM (Row.cons tyS (Row.cons tyI (Row.cons (tyL (tyL (tyT (Row.cons tyI (Row.one tyI))))) (Row.one tyI))))) spec_3, .fz tyI s5, .no, .no]) length_4 PassesOwn.never rfl (xi_range T.l_range xe_int) (Cv.refl _) (fun s5 => (xg_name 4 sc_law_source.nd rfl (.inl rfl))) id (fun nx7 s5 x6 => by exact (y_if (Γ := [.st, .fz tyI y, .fz (tyM (Row.cons tyS (Row.cons tyI (Row.cons (tyL (tyL (tyT (Row.cons tyI (Row.one tyI))))) (Row.one tyI))))) spec_3, .fz tyI s5, .fz tyI x6, .no]) (fun s12 : Int => [.st, .fz tyI y, .fz (tyM (Row.cons tyS (Row.cons tyI (Row.cons (tyL (tyL (tyT (Row.cons tyI (Row.one tyI))))) (Row.one tyI))))) spec_3, .fz tyI s12, .fz tyI x6, .no]) (xt_w (xw_and (xt_gt (xe_var 3 rfl rfl (.inl rfl)) xe_int) (xw_and1 (xt_gt (xe_len T.l_len (xl_of (xe_call (ok_law_words T) (hr.mono (by decide)) (xa_cons (xe_var 2 rfl rfl (.inl rfl)) (xa_one (xe_var 3 rfl rfl (.inl rfl))))))) (xe_var 1 rfl rfl (.inl rfl)))))) id (fun j13 => by exact (y_set (Γ := [.st, .fz tyI y, .fz (tyM (Row.cons tyS (Row.cons tyI (Row.cons (tyL (tyL (tyT (Row.cons tyI (Row.one tyI))))) (Row.one tyI))))) spec_3, .fz tyI s5, .fz tyI x6, .no]) 3 sc_law_source.nd rfl (.inl rfl) (xe_sub (xe_var 3 rfl rfl (.inl rfl)) xe_int) id (fun length_14 => (y_join (ΓJ := fun s12 : Int => [.st, .fz tyI y, .fz (tyM (Row.cons tyS (Row.cons tyI (Row.cons (tyL (tyL (tyT (Row.cons tyI (Row.one tyI))))) (Row.one tyI))))) spec_3, .fz tyI s12, .fz tyI x6, .no]) length_14 (Cv.refl _) rfl id)))) (fun j13 => by exact (y_join (ΓJ := fun s12 : Int => [.st, .fz tyI y, .fz (tyM (Row.cons tyS (Row.cons tyI (Row.cons (tyL (tyL (tyT (Row.cons tyI (Row.one tyI))))) (Row.one tyI))))) spec_3, .fz tyI s12, .fz tyI x6, .no]) s5 (Cv.refl _) rfl id)) (fun s12 => by exact (y_join (ΓJ := fun s5 : Int => [.st, .fz tyI y, .fz (tyM (Row.cons tyS (Row.cons tyI (Row.cons (tyL (tyL (tyT (Row.cons tyI (Row.one tyI))))) (Row.one tyI))))) spec_3, .fz tyI s5, .no, .no]) s12 (Wk.cv (.same (.same (.same (.same (.no (.same .nil))))))) rfl id)))) (fun s5 => by exact (y_ret (Γ := [.st, .fz tyI y, .fz (tyM (Row.cons tyS (Row.cons tyI (Row.cons (tyL (tyL (tyT (Row.cons tyI (Row.one tyI))))) (Row.one tyI))))) spec_3, .fz tyI s5, .no, .no]) (xe_mix (xa_cons (xe_inB (xe_make (ok_Machine___init__ T) (hr.mono (by decide)) (xa_cons (xe_itM (xe_var 2 rfl rfl (.inl rfl)) ra_zero xe_int (fun _ _ => rfl)) (xa_cons (xe_itM (xe_var 2 rfl rfl (.inl rfl)) (ra_succ ra_zero) xe_int (fun _ _ => rfl)) (xa_cons (xe_itM (xe_var 2 rfl rfl (.inl rfl)) (ra_succ (ra_succ ra_zero)) xe_int (fun _ _ => rfl)) (xa_one (xe_var 3 rfl rfl (.inl rfl)))))))) (xa_one (xe_call (ok_law_words T) (hr.mono (by decide)) (xa_cons (xe_var 2 rfl rfl (.inl rfl)) (xa_one (xe_var 3 rfl rfl (.inl rfl)))))))) id)))))))) (by exact (y_set (Γ := [.st, .fz tyI y, .no, .no, .no, .no]) 5 sc_law_source.nd rfl (.inl rfl) (xe_callS 0 rfl rfl (.inl rfl) (ok_law_pairs T) (hr.mono (by decide)) (xa_one (xe_var 1 rfl rfl (.inl rfl)))) id (fun pairs_18 => (y_ret (Γ := [.st, .fz tyI y, .no, .no, .no, .fz (tyL (tyT (Row.cons tyS (Row.one tyI)))) pairs_18]) (xe_mix (xa_cons (xe_inA (xe_make (ok_Table___init__ T) (hr.mono (by decide)) (xa_one (xe_var 5 rfl rfl (.inl rfl))))) (xa_one (xe_f (xf_sortT T.l_sorted hr.units (xl_of (xe_var 5 rfl rfl (.inl rfl)))))))) id))))))
theorem ok_law_source (T : Txt K mg) : Cle P w K mg base "_law_source" 5 (spS (zmR Rst Ist) (Row.one tyI) (tyM (Row.cons (tyEi (tyO (He.ga K "Table") ns_Table (Row.cons (tyD tyI) (Row.one tyI))) (tyO (He.ga K "Machine") ns_Machine (Row.cons tyS (Row.cons tyI (Row.cons (tyP (tyP (tyT (Row.cons tyI (Row.one tyI))))) (Row.cons tyI (Row.cons tyI (Row.cons tyI (Row.one (tyD tyI))))))))) g_Src) (Row.one (tyL (tyT (Row.cons tyS (Row.one tyI))))))) (w_law_source)) :=
  let ⟨_, F⟩ := T.f_law_source
  ⟨_, _, _, fo_law_source T F, T.g_law_source, F.kp, F.bindsN (fun _ _ _ _ _ _ us hl => match us, hl with | [_, _], _ => rfl)⟩
/-! _law_split -/
theorem sc_law_split : FnScope ["state", "words", "factor", "parts", "text", "weight", "total", "first", "turn", "k"] ["state", "words"] (defScope s_law_split) := ⟨rfl, rfl, rfl, by decide +kernel, rfl, by decide +kernel, by decide +kernel⟩
def w_law_split (y : (List (Str × Int))) (k : List (Int × Str) → Prop) : Prop :=
  w_law_draw (3 : Int) (fun r1 => (Bnd ((1 : Int) + r1) fun factor_2 => (Bnd ([] : List (Int × Str)) fun parts_3 => WFor y parts_3 (fun (nx6 : ((List (Int × Str))) → Prop) (s4 : (List (Int × Str))) x5 => CMulW x5.2 factor_2 ∧ ((Bnd (x5.2 * factor_2) fun total_8 => (Bnd total_8 fun first_9 => (Jn (fun s11 : Int => (s4).length < sizeLine ∧ ((Bnd (s11, x5.1) fun y12 => (Jn (fun s13 : (List (Int × Str)) => nx6 s13) fun j14 => if (decide (s11 < total_8)) = true then (((s4 ++ [y12])).length < sizeLine ∧ ((Bnd ((total_8 - s11), x5.1) fun y15 => j14 ((s4 ++ [y12]) ++ [y15])))) else (j14 (s4 ++ [y12])))))) fun j16 => w_law_draw (2 : Int) (fun r10 => if (decide (r10 = (0 : Int))) = true then (w_law_wide () (fun r17 => 0 < total_8 ∧ ((Bnd ((1 : Int) + (r17 % total_8)) fun first_18 => j16 first_18)))) else (j16 first_9))))))) (fun (s4 : (List (Int × Str))) => w_law_draw ((s4).length : Int) (fun r19 => (Bnd r19 fun turn_20 => ((cutA s4 (some turn_20) none)).length + ((cutA s4 none (some turn_20))).length ≤ sizeLine ∧ ((Bnd ((cutA s4 (some turn_20) none) ++ (cutA s4 none (some turn_20))) fun parts_21 => (Jn (fun s23 : (List (Int × Str)) => k s23) fun j24 => w_law_draw (2 : Int) (fun r22 => if (decide (r22 = (0 : Int))) = true then ((-(2 ^ 62) ≤ ((parts_21).length : Int) ∧ ((parts_21).length : Int) < 2 ^ 62) ∧ (WLc (rng 0 (((parts_21).length : Int)).toNat) (fun x25 kk27 => kk27 true) (fun x25 kk28 => ∃ y26, atI parts_21 ((((parts_21).length : Int) - (1 : Int)) - x25) = some y26 ∧ (kk28 y26)) (fun r29 => (Bnd r29 fun parts_30 => j24 parts_30)))) else (j24 parts_21)))))))))))
theorem fo_law_split {fd : FuncData} (T : Txt K mg) (F : FunD K "_law_split" "_law_split" (defArgs s_law_split) (defBody s_law_split) (defScope s_law_split) [] [] (He.fAd K ("_law_split", none)) fd) : FnOk P w K mg base CX0 3 (He.fAd K ("_law_split", none)) fd ["state", "words"] (spS (zmR Rst Ist) (Row.one (tyL (tyT (Row.cons tyS (Row.one tyI))))) (tyL (tyT (Row.cons tyI (Row.one tyS)))) (w_law_split)) :=
  fn_S (Γ0 := fun y => [.st, .fz (tyL (tyT (Row.cons tyS (Row.one tyI)))) y, .no, .no, .no, .no, .no, .no, .no, .no]) (kn := fun _ => False) F sc_law_split rfl (Nat.le_of_ble_eq_true rfl) rsl_one (fun _ => rfl) (fun _ _ h => h.elim) (fun cdv A outer s H E hr st y k => (y_set (Γ := [.st, .fz (tyL (tyT (Row.cons tyS (Row.one tyI)))) y, .no, .no, .no, .no, .no, .no, .no, .no]) 2 sc_law_split.nd rfl (.inl rfl) (xe_add xe_int (xe_callS 0 rfl rfl (.inl rfl) (ok_law_draw T) (hr.mono (by decide)) (xa_one xe_int))) id (fun factor_2 => (y_setF (Γ := [.st, .fz (tyL (tyT (Row.cons tyS (Row.one tyI)))) y, .fz tyI factor_2, .no, .no, .no, .no, .no, .no, .no]) 3 sc_law_split.nd rfl (.inr rfl) (xf_nil (A := (tyT (Row.cons tyI (Row.one tyS))))) id (fun parts_3 => (y_for (Γ := [.st, .fz (tyL (tyT (Row.cons tyS (Row.one tyI)))) y, .fz tyI factor_2, .ml (tyT (Row.cons tyI (Row.one tyS))) parts_3, .no, .no, .no, .no, .no, .no]) (ΓT := fun (s4 : (List (Int × Str))) (x5 : Str × Int) => [.st, .fz (tyL (tyT (Row.cons tyS (Row.one tyI)))) y, .fz tyI factor_2, .ml (tyT (Row.cons tyI (Row.one tyS))) s4, .fz tyS x5.1, .fz tyI x5.2, .no, .no, .no, .no]) (fun s4 : (List (Int × Str)) => [.st, .fz (tyL (tyT (Row.cons tyS (Row.one tyI)))) y, .fz tyI factor_2, .ml (tyT (Row.cons tyI (Row.one tyS))) s4, .no, .no, .no, .no, .no, .no]) parts_3 PassesOwn.never rfl (xi_list (xe_var 1 rfl rfl (.inl rfl))) (Cv.refl _) (fun s4 => (xg_tup rfl (xgs_cons (xg_name 4 sc_law_split.nd rfl (.inl rfl)) (fun _ => (xgs_one (xg_name 5 sc_law_split.nd rfl (.inl rfl))))))) id (fun nx6 s4 x5 => by exact (y_set (Γ := [.st, .fz (tyL (tyT (Row.cons tyS (Row.one tyI)))) y, .fz tyI factor_2, .ml (tyT (Row.cons tyI (Row.one tyS))) s4, .fz tyS x5.1, .fz tyI x5.2, .no, .no, .no, .no]) 6 sc_law_split.nd rfl (.inl rfl) (xe_mul (xe_var 5 rfl rfl (.inl rfl)) (xe_var 2 rfl rfl (.inl rfl))) id (fun total_8 => (y_set (Γ := [.st, .fz (tyL (tyT (Row.cons tyS (Row.one tyI)))) y, .fz tyI factor_2, .ml (tyT (Row.cons tyI (Row.one tyS))) s4, .fz tyS x5.1, .fz tyI x5.2, .fz tyI total_8, .no, .no, .no]) 7 sc_law_split.nd rfl (.inl rfl) (xe_var 6 rfl rfl (.inl rfl)) id (fun first_9 => (y_if (Γ := [.st, .fz (tyL (tyT (Row.cons tyS (Row.one tyI)))) y, .fz tyI factor_2, .ml (tyT (Row.cons tyI (Row.one tyS))) s4, .fz tyS x5.1, .fz tyI x5.2, .fz tyI total_8, .fz tyI first_9, .no, .no]) (fun s11 : Int => [.st, .fz (tyL (tyT (Row.cons tyS (Row.one tyI)))) y, .fz tyI factor_2, .ml (tyT (Row.cons tyI (Row.one tyS))) s4, .fz tyS x5.1, .fz tyI x5.2, .fz tyI total_8, .fz tyI s11, .no, .no]) (xt_eq (xe_callS 0 rfl rfl (.inl rfl) (ok_law_draw T) (hr.mono (by decide)) (xa_one xe_int)) xe_int) id (fun j16 => by exact (y_set (Γ := [.st, .fz (tyL (tyT (Row.cons tyS (Row.one tyI)))) y, .fz tyI factor_2, .ml (tyT (Row.cons tyI (Row.one tyS))) s4, .fz tyS x5.1, .fz tyI x5.2, .fz tyI total_8, .fz tyI first_9, .no, .no]) 7 sc_law_split.nd rfl (.inl rfl) (xe_add xe_int (xe_mod (xe_int1 T.l_int (xe_callS 0 rfl rfl (.inl rfl) (ok_law_wide T) (hr.mono (by decide)) xa_nil)) (xe_var 6 rfl rfl (.inl rfl)))) id (fun first_18 => (y_join (ΓJ := fun s11 : Int => [.st, .fz (tyL (tyT (Row.cons tyS (Row.one tyI)))) y, .fz tyI factor_2, .ml (tyT (Row.cons tyI (Row.one tyS))) s4, .fz tyS x5.1, .fz tyI x5.2, .fz tyI total_8, .fz tyI s11, .no, .no]) first_18 (Cv.refl _) rfl id)))) (fun j16 => by exact (y_join (ΓJ := fun s11 : Int => [.st, .fz (tyL (tyT (Row.cons tyS (Row.one tyI)))) y, .fz tyI factor_2, .ml (tyT (Row.cons tyI (Row.one tyS))) s4, .fz tyS x5.1, .fz tyI x5.2, .fz tyI total_8, .fz tyI s11, .no, .no]) first_9 (Cv.refl _) rfl id)) (fun s11 => by exact (y_app (Γ := [.st, .fz (tyL (tyT (Row.cons tyS (Row.one tyI)))) y, .fz tyI factor_2, .ml (tyT (Row.cons tyI (Row.one tyS))) s4, .fz tyS x5.1, .fz tyI x5.2, .fz tyI total_8, .fz tyI s11, .no, .no]) 3 rfl rfl (.inr (.inl rfl)) (xe_tup (xa_cons (xe_var 7 rfl rfl (.inl rfl)) (xa_one (xe_var 4 rfl rfl (.inl rfl))))) id (fun y12 => (y_if (Γ := [.st, .fz (tyL (tyT (Row.cons tyS (Row.one tyI)))) y, .fz tyI factor_2, .ml (tyT (Row.cons tyI (Row.one tyS))) (s4 ++ [y12]), .fz tyS x5.1, .fz tyI x5.2, .fz tyI total_8, .fz tyI s11, .no, .no]) (fun s13 : (List (Int × Str)) => [.st, .fz (tyL (tyT (Row.cons tyS (Row.one tyI)))) y, .fz tyI factor_2, .ml (tyT (Row.cons tyI (Row.one tyS))) s13, .fz tyS x5.1, .fz tyI x5.2, .fz tyI total_8, .fz tyI s11, .no, .no]) (xt_lt (xe_var 7 rfl rfl (.inl rfl)) (xe_var 6 rfl rfl (.inl rfl))) id (fun j14 => by exact (y_app (Γ := [.st, .fz (tyL (tyT (Row.cons tyS (Row.one tyI)))) y, .fz tyI factor_2, .ml (tyT (Row.cons tyI (Row.one tyS))) (s4 ++ [y12]), .fz tyS x5.1, .fz tyI x5.2, .fz tyI total_8, .fz tyI s11, .no, .no]) 3 rfl rfl (.inr (.inl rfl)) (xe_tup (xa_cons (xe_sub (xe_var 6 rfl rfl (.inl rfl)) (xe_var 7 rfl rfl (.inl rfl))) (xa_one (xe_var 4 rfl rfl (.inl rfl))))) id (fun y15 => (y_join (ΓJ := fun s13 : (List (Int × Str)) => [.st, .fz (tyL (tyT (Row.cons tyS (Row.one tyI)))) y, .fz tyI factor_2, .ml (tyT (Row.cons tyI (Row.one tyS))) s13, .fz tyS x5.1, .fz tyI x5.2, .fz tyI total_8, .fz tyI s11, .no, .no]) ((s4 ++ [y12]) ++ [y15]) (Cv.refl _) rfl id)))) (fun j14 => by exact (y_join (ΓJ := fun s13 : (List (Int × Str)) => [.st, .fz (tyL (tyT (Row.cons tyS (Row.one tyI)))) y, .fz tyI factor_2, .ml (tyT (Row.cons tyI (Row.one tyS))) s13, .fz tyS x5.1, .fz tyI x5.2, .fz tyI total_8, .fz tyI s11, .no, .no]) (s4 ++ [y12]) (Cv.refl _) rfl id)) (fun s13 => by exact (y_join (ΓJ := fun s4 : (List (Int × Str)) => [.st, .fz (tyL (tyT (Row.cons tyS (Row.one tyI)))) y, .fz tyI factor_2, .ml (tyT (Row.cons tyI (Row.one tyS))) s4, .no, .no, .no, .no, .no, .no]) s13 (Wk.cv (.same (.same (.same (.same (.no (.no (.no (.no (.same (.same .nil))))))))))) rfl id)))))))))))) (fun s4 => by exact (y_set (Γ := [.st, .fz (tyL (tyT (Row.cons tyS (Row.one tyI)))) y, .fz tyI factor_2, .ml (tyT (Row.cons tyI (Row.one tyS))) s4, .no, .no, .no, .no, .no, .no]) 8 sc_law_split.nd rfl (.inl rfl) (xe_callS 0 rfl rfl (.inl rfl) (ok_law_draw T) (hr.mono (by decide)) (xa_one (xe_len T.l_len (xl_own 3 rfl rfl (.inr (.inl rfl)))))) id (fun turn_20 => (y_setF (Γ := [.st, .fz (tyL (tyT (Row.cons tyS (Row.one tyI)))) y, .fz tyI factor_2, .ml (tyT (Row.cons tyI (Row.one tyS))) s4, .no, .no, .no, .no, .fz tyI turn_20, .no]) 3 sc_law_split.nd rfl (.inr rfl) (xf_cat (xl_of (xe_f (xf_slL (xl_own 3 rfl rfl (.inr (.inl rfl))) (xo_some (xe_var 8 rfl rfl (.inl rfl))) xo_none))) (xl_of (xe_f (xf_slL (xl_own 3 rfl rfl (.inr (.inl rfl))) xo_none (xo_some (xe_var 8 rfl rfl (.inl rfl))))))) id (fun parts_21 => (y_if (Γ := [.st, .fz (tyL (tyT (Row.cons tyS (Row.one tyI)))) y, .fz tyI factor_2, .ml (tyT (Row.cons tyI (Row.one tyS))) parts_21, .no, .no, .no, .no, .fz tyI turn_20, .no]) (fun s23 : (List (Int × Str)) => [.st, .fz (tyL (tyT (Row.cons tyS (Row.one tyI)))) y, .fz tyI factor_2, .ml (tyT (Row.cons tyI (Row.one tyS))) s23, .no, .no, .no, .no, .fz tyI turn_20, .no]) (xt_eq (xe_callS 0 rfl rfl (.inl rfl) (ok_law_draw T) (hr.mono (by decide)) (xa_one xe_int)) xe_int) id (fun j24 => by exact (y_setF (Γ := [.st, .fz (tyL (tyT (Row.cons tyS (Row.one tyI)))) y, .fz tyI factor_2, .ml (tyT (Row.cons tyI (Row.one tyS))) parts_21, .no, .no, .no, .no, .fz tyI turn_20, .no]) 3 sc_law_split.nd rfl (.inr rfl) (xf_c (xc_lc (B := (tyT (Row.cons tyI (Row.one tyS)))) (ΓT := fun (x25 : Int) => [.st, .fz (tyL (tyT (Row.cons tyS (Row.one tyI)))) y, .fz tyI factor_2, .ml (tyT (Row.cons tyI (Row.one tyS))) parts_21, .no, .no, .no, .no, .fz tyI turn_20, .fz tyI x25]) [("k", 9)] rfl sc_law_split.nd (xi_range T.l_range (xe_len T.l_len (xl_own 3 rfl rfl (.inr (.inl rfl))))) (by show blkC ["state", "words", "factor", "parts", "text", "weight", "total", "first", "turn", "k"] (defScope s_law_split) _ [("k", 9)] = true; decide +kernel) (fun _ _ _ _ _ => (xg_name 9 sc_law_split.nd rfl (.inl rfl))) (by decide) (fun _ _ _ _ _ x25 => xts_nil) (fun _ _ _ _ _ x25 => (xe_ix (xl_own 3 rfl rfl (.inr (.inl rfl))) (xe_sub (xe_sub (xe_len T.l_len (xl_own 3 rfl rfl (.inr (.inl rfl)))) xe_int) (xe_var 9 rfl rfl (.inl rfl))) (fun _ _ => rfl))))) id (fun parts_30 => (y_join (ΓJ := fun s23 : (List (Int × Str)) => [.st, .fz (tyL (tyT (Row.cons tyS (Row.one tyI)))) y, .fz tyI factor_2, .ml (tyT (Row.cons tyI (Row.one tyS))) s23, .no, .no, .no, .no, .fz tyI turn_20, .no]) parts_30 (Cv.refl _) rfl id)))) (fun j24 => by exact (y_join (ΓJ := fun s23 : (List (Int × Str)) => [.st, .fz (tyL (tyT (Row.cons tyS (Row.one tyI)))) y, .fz tyI factor_2, .ml (tyT (Row.cons tyI (Row.one tyS))) s23, .no, .no, .no, .no, .fz tyI turn_20, .no]) parts_21 (Cv.refl _) rfl id)) (fun s23 => by exact (xb_cv (cv_ml 3 rfl) (y_ret (Γ := [.st, .fz (tyL (tyT (Row.cons tyS (Row.one tyI)))) y, .fz tyI factor_2, .fz (tyL (tyT (Row.cons tyI (Row.one tyS)))) s23, .no, .no, .no, .no, .fz tyI turn_20, .no]) (xe_var 3 rfl rfl (.inr (.inl rfl))) id)))))))))))))))
theorem ok_law_split (T : Txt K mg) : Cle P w K mg base "_law_split" 3 (spS (zmR Rst Ist) (Row.one (tyL (tyT (Row.cons tyS (Row.one tyI))))) (tyL (tyT (Row.cons tyI (Row.one tyS)))) (w_law_split)) :=
  let ⟨_, F⟩ := T.f_law_split
  ⟨_, _, _, fo_law_split T F, T.g_law_split, F.kp, F.bindsN (fun _ _ _ _ _ _ us hl => match us, hl with | [_, _], _ => rfl)⟩
/-! _law_start -/
theorem sc_law_start : FnScope ["script"] ["script"] (defScope s_law_start) := ⟨rfl, rfl, rfl, by decide +kernel, rfl, by decide +kernel, by decide +kernel⟩
def w_law_start (y : (List Int)) (k : (List (Int)) × Int × Int × Int × Int → Prop) : Prop :=
  k (y, (0 : Int), (0 : Int), (0 : Int), (7 : Int))
theorem ok_law_start (T : Txt K mg) : Cle P w K mg base "_law_start" 1 (spN (Row.one (tyZ K)) (Row.cons (tyL tyI) (Row.cons tyI (Row.cons tyI (Row.cons tyI (Row.one tyI))))) (w_law_start)) :=
  let ⟨_, F⟩ := T.f_law_start
  cle_N (Γ0 := fun y => [.fz (tyZ K) y]) F T.g_law_start sc_law_start (fun _ _ _ _ _ _ us hl => match us, hl with | [_], _ => rfl) rfl (Nat.le_of_ble_eq_true rfl) rsl_one (fun _ => rfl) (fun cdv A outer s H E hr y k => (xn_mix (xa_cons (xe_f (xf_listZ T.l_list (xe_var 0 rfl rfl (.inl rfl)))) (xa_cons xe_int (xa_cons xe_int (xa_cons xe_int (xa_one xe_int)))))))
/-! Machine.weight_of -/
theorem sc_Machine_weight_of : FnScope ["self", "text"] ["self", "text"] (defScope s_Machine_weight_of) := ⟨rfl, rfl, rfl, by decide +kernel, rfl, by decide +kernel, by decide +kernel⟩
def w_Machine_weight_of (y : ((Str × Int × (List (List (Int × Int))) × Int × Int × Int × (List (Str × (Int))))) × Str) (k : Int → Prop) : Prop :=
  k ((look y.1.2.2.2.2.2.2 y.2).getD (0 : Int))
theorem fo_Machine_weight_of {fd : FuncData} (T : Txt K mg) (F : FunD K "weight_of" "Machine.weight_of" (defArgs s_Machine_weight_of) (defBody s_Machine_weight_of) (defScope s_Machine_weight_of) [] [] (He.fAd K ("Machine", some "weight_of")) fd) : FnOk P w K mg base CX0 1 (He.fAd K ("Machine", some "weight_of")) fd ["self", "text"] (spP (Row.cons (tyO (He.ga K "Machine") ns_Machine (Row.cons tyS (Row.cons tyI (Row.cons (tyP (tyP (tyT (Row.cons tyI (Row.one tyI))))) (Row.cons tyI (Row.cons tyI (Row.cons tyI (Row.one (tyD tyI))))))))) (Row.one tyS)) tyI (w_Machine_weight_of)) :=
  fn_P (Γ0 := fun y => [.fz (tyO (He.ga K "Machine") ns_Machine (Row.cons tyS (Row.cons tyI (Row.cons (tyP (tyP (tyT (Row.cons tyI (Row.one tyI))))) (Row.cons tyI (Row.cons tyI (Row.cons tyI (Row.one (tyD tyI))))))))) y.1, .fz tyS y.2]) (kn := fun _ => False) F sc_Machine_weight_of rfl (Nat.le_of_ble_eq_true rfl) (rsl_cons rsl_one) (fun _ => rfl) (fun _ _ h => h.elim) (fun cdv A outer s H E hr y k => (y_ret (Γ := [.fz (tyO (He.ga K "Machine") ns_Machine (Row.cons tyS (Row.cons tyI (Row.cons (tyP (tyP (tyT (Row.cons tyI (Row.one tyI))))) (Row.cons tyI (Row.cons tyI (Row.cons tyI (Row.one (tyD tyI))))))))) y.1, .fz tyS y.2]) (xe_getD (hu_of hr) (xd_of (xe_fld T.c_Machine T.n_Machine_weights nd_Machine rfl (ra_succ (ra_succ (ra_succ (ra_succ (ra_succ (ra_succ ra_one)))))) (xe_var 0 rfl rfl (.inl rfl)))) (xe_var 1 rfl rfl (.inl rfl)) xe_int ⟨rfl, rfl, rfl, rfl⟩) id))
theorem ok_Machine_weight_of (T : Txt K mg) : CleM P w K mg base (He.ga K "Machine") "weight_of" 1 (spP (Row.cons (tyO (He.ga K "Machine") ns_Machine (Row.cons tyS (Row.cons tyI (Row.cons (tyP (tyP (tyT (Row.cons tyI (Row.one tyI))))) (Row.cons tyI (Row.cons tyI (Row.cons tyI (Row.one (tyD tyI))))))))) (Row.one tyS)) tyI (w_Machine_weight_of)) :=
  let ⟨_, F⟩ := T.f_Machine_weight_of
  ⟨_, _, _, fo_Machine_weight_of T F, T.m_Machine_weight_of, F.bindsN (fun _ _ _ _ _ _ us hl => match us, hl with | [_, _], _ => rfl)⟩
/-! Share.__init__ -/
theorem sc_Share___init__ : FnScope ["self", "over", "under", "divisor"] ["self", "over", "under"] (defScope s_Share___init__) := ⟨rfl, rfl, rfl, by decide +kernel, rfl, by decide +kernel, by decide +kernel⟩
def w_Share___init__ (y : Int × Int) (k : (Int × Int) → Prop) : Prop :=
  if (decide (y.2 = (0 : Int))) = true then (False) else (w_greatest_divisor (((y.1).natAbs : Int), ((y.2).natAbs : Int)) (fun r1 => (Bnd r1 fun divisor_2 => (Jn (fun s3 : Int => CDivW y.1 s3 ∧ ((Bnd (y.1 / s3) fun y4 => CDivW y.2 s3 ∧ ((Bnd (y.2 / s3) fun y5 => k (y4, y5)))))) fun j6 => if (decide (y.2 < (0 : Int))) = true then (Bnd (-divisor_2) fun divisor_7 => j6 divisor_7) else (j6 divisor_2)))))
theorem fo_Share___init__ {fd : FuncData} (T : Txt K mg) (F : FunD K "__init__" "Share.__init__" (defArgs s_Share___init__) (defBody s_Share___init__) (defScope s_Share___init__) [] [] (He.fAd K ("Share", some "__init__")) fd) : FnOk P w K mg base CX0 2 (He.fAd K ("Share", some "__init__")) fd ["self", "over", "under"] (spI (He.ga K "Share") ns_Share (Row.cons tyI (Row.one tyI)) (Row.cons tyI (Row.one tyI)) (w_Share___init__)) :=
  fn_I (Γ0 := fun p y => [.ob p (He.ga K "Share") [], .fz tyI y.1, .fz tyI y.2, .no]) F sc_Share___init__ rfl (Nat.le_of_ble_eq_true rfl) (rsl_cons rsl_one) (fun _ _ => rfl) (fun cdv A outer s H E hr p y k => (y_if1 (Γ := [.ob p (He.ga K "Share") [], .fz tyI y.1, .fz tyI y.2, .no]) (xt_eq (xe_var 2 rfl rfl (.inl rfl)) xe_int) id (by exact (y_never id)) (by exact (y_set (Γ := [.ob p (He.ga K "Share") [], .fz tyI y.1, .fz tyI y.2, .no]) 3 sc_Share___init__.nd rfl (.inl rfl) (xe_call (ok_greatest_divisor T) (hr.mono (by decide)) (xa_cons (xe_abs T.l_abs (xe_var 1 rfl rfl (.inl rfl))) (xa_one (xe_abs T.l_abs (xe_var 2 rfl rfl (.inl rfl)))))) id (fun divisor_2 => (y_if (Γ := [.ob p (He.ga K "Share") [], .fz tyI y.1, .fz tyI y.2, .fz tyI divisor_2]) (fun s3 : Int => [.ob p (He.ga K "Share") [], .fz tyI y.1, .fz tyI y.2, .fz tyI s3]) (xt_lt (xe_var 2 rfl rfl (.inl rfl)) xe_int) id (fun j6 => by exact (y_set (Γ := [.ob p (He.ga K "Share") [], .fz tyI y.1, .fz tyI y.2, .fz tyI divisor_2]) 3 sc_Share___init__.nd rfl (.inl rfl) (xe_neg (xe_var 3 rfl rfl (.inl rfl))) id (fun divisor_7 => (y_join (ΓJ := fun s3 : Int => [.ob p (He.ga K "Share") [], .fz tyI y.1, .fz tyI y.2, .fz tyI s3]) divisor_7 (Cv.refl _) rfl id)))) (fun j6 => by exact (y_join (ΓJ := fun s3 : Int => [.ob p (He.ga K "Share") [], .fz tyI y.1, .fz tyI y.2, .fz tyI s3]) divisor_2 (Cv.refl _) rfl id)) (fun s3 => by exact (y_fldNew (Γ := [.ob p (He.ga K "Share") [], .fz tyI y.1, .fz tyI y.2, .fz tyI s3]) 0 [] rfl rfl (.inl rfl) T.c_Share T.n_Share_over rfl (by decide +kernel) (xe_fdiv (xe_var 1 rfl rfl (.inl rfl)) (xe_var 3 rfl rfl (.inl rfl))) id (fun y4 => (y_fldNew (Γ := [.ob p (He.ga K "Share") [("over", ⟨tyI, y4⟩)], .fz tyI y.1, .fz tyI y.2, .fz tyI s3]) 0 ["over"] rfl rfl (.inl rfl) T.c_Share T.n_Share_under rfl (by decide +kernel) (xe_fdiv (xe_var 2 rfl rfl (.inl rfl)) (xe_var 3 rfl rfl (.inl rfl))) id (fun y5 => (y_initEnd (Γ := [.ob p (He.ga K "Share") [("over", ⟨tyI, y4⟩), ("under", ⟨tyI, y5⟩)], .fz tyI y.1, .fz tyI y.2, .fz tyI s3]) (y4, y5) rfl rfl (rf_cons rf_one) rfl id))))))))))))
theorem ok_Share___init__ (T : Txt K mg) : CleI P w K mg base "Share" (He.ga K "Share") 2 (spI (He.ga K "Share") ns_Share (Row.cons tyI (Row.one tyI)) (Row.cons tyI (Row.one tyI)) (w_Share___init__)) :=
  let ⟨_, F⟩ := T.f_Share___init__
  ⟨_, _, _, fo_Share___init__ T F, T.k_Share, T.g_Share, F.bindsN (fun _ _ _ _ _ _ us hl => match us, hl with | [_, _, _], _ => rfl)⟩
/-! Machine.share_of -/
theorem sc_Machine_share_of : FnScope ["self", "text"] ["self", "text"] (defScope s_Machine_share_of) := ⟨rfl, rfl, rfl, by decide +kernel, rfl, by decide +kernel, by decide +kernel⟩
def w_Machine_share_of (y : ((Str × Int × (List (List (Int × Int))) × Int × Int × Int × (List (Str × (Int))))) × Str) (k : (Int × Int) → Prop) : Prop :=
  w_Machine_weight_of (y.1, y.2) (fun r1 => w_Share___init__ (r1, y.1.2.2.2.2.2.1) (fun r2 => k r2))
theorem fo_Machine_share_of {fd : FuncData} (T : Txt K mg) (F : FunD K "share_of" "Machine.share_of" (defArgs s_Machine_share_of) (defBody s_Machine_share_of) (defScope s_Machine_share_of) [] [] (He.fAd K ("Machine", some "share_of")) fd) : FnOk P w K mg base CX0 4 (He.fAd K ("Machine", some "share_of")) fd ["self", "text"] (spP (Row.cons (tyO (He.ga K "Machine") ns_Machine (Row.cons tyS (Row.cons tyI (Row.cons (tyP (tyP (tyT (Row.cons tyI (Row.one tyI))))) (Row.cons tyI (Row.cons tyI (Row.cons tyI (Row.one (tyD tyI))))))))) (Row.one tyS)) (tyO (He.ga K "Share") ns_Share (Row.cons tyI (Row.one tyI))) (w_Machine_share_of)) :=
  fn_P (Γ0 := fun y => [.fz (tyO (He.ga K "Machine") ns_Machine (Row.cons tyS (Row.cons tyI (Row.cons (tyP (tyP (tyT (Row.cons tyI (Row.one tyI))))) (Row.cons tyI (Row.cons tyI (Row.cons tyI (Row.one (tyD tyI))))))))) y.1, .fz tyS y.2]) (kn := fun _ => False) F sc_Machine_share_of rfl (Nat.le_of_ble_eq_true rfl) (rsl_cons rsl_one) (fun _ => rfl) (fun _ _ h => h.elim) (fun cdv A outer s H E hr y k => (y_ret (Γ := [.fz (tyO (He.ga K "Machine") ns_Machine (Row.cons tyS (Row.cons tyI (Row.cons (tyP (tyP (tyT (Row.cons tyI (Row.one tyI))))) (Row.cons tyI (Row.cons tyI (Row.cons tyI (Row.one (tyD tyI))))))))) y.1, .fz tyS y.2]) (xe_make (ok_Share___init__ T) (hr.mono (by decide)) (xa_cons (xe_meth T.c_Machine (ok_Machine_weight_of T) (hr.mono (by decide)) (by decide +kernel) (xe_var 0 rfl rfl (.inl rfl)) (xa_one (xe_var 1 rfl rfl (.inl rfl)))) (xa_one (xe_fld T.c_Machine T.n_Machine_whole nd_Machine rfl (ra_succ (ra_succ (ra_succ (ra_succ (ra_succ ra_zero))))) (xe_var 0 rfl rfl (.inl rfl)))))) id))
theorem ok_Machine_share_of (T : Txt K mg) : CleM P w K mg base (He.ga K "Machine") "share_of" 4 (spP (Row.cons (tyO (He.ga K "Machine") ns_Machine (Row.cons tyS (Row.cons tyI (Row.cons (tyP (tyP (tyT (Row.cons tyI (Row.one tyI))))) (Row.cons tyI (Row.cons tyI (Row.cons tyI (Row.one (tyD tyI))))))))) (Row.one tyS)) (tyO (He.ga K "Share") ns_Share (Row.cons tyI (Row.one tyI))) (w_Machine_share_of)) :=
  let ⟨_, F⟩ := T.f_Machine_share_of
  ⟨_, _, _, fo_Machine_share_of T F, T.m_Machine_share_of, F.bindsN (fun _ _ _ _ _ _ us hl => match us, hl with | [_, _], _ => rfl)⟩
/-! Machine.texts -/
theorem sc_Machine_texts : FnScope ["self"] ["self"] (defScope s_Machine_texts) := ⟨rfl, rfl, rfl, by decide +kernel, rfl, by decide +kernel, by decide +kernel⟩
def w_Machine_texts (y : ((Str × Int × (List (List (Int × Int))) × Int × Int × Int × (List (Str × (Int)))))) (k : List (Str) → Prop) : Prop :=
  k (sortS (keys y.2.2.2.2.2.2))
theorem fo_Machine_texts {fd : FuncData} (T : Txt K mg) (F : FunD K "texts" "Machine.texts" (defArgs s_Machine_texts) (defBody s_Machine_texts) (defScope s_Machine_texts) [] [] (He.fAd K ("Machine", some "texts")) fd) : FnOk P w K mg base CX0 1 (He.fAd K ("Machine", some "texts")) fd ["self"] (spP (Row.one (tyO (He.ga K "Machine") ns_Machine (Row.cons tyS (Row.cons tyI (Row.cons (tyP (tyP (tyT (Row.cons tyI (Row.one tyI))))) (Row.cons tyI (Row.cons tyI (Row.cons tyI (Row.one (tyD tyI)))))))))) (tyP tyS) (w_Machine_texts)) :=
  fn_P (Γ0 := fun y => [.fz (tyO (He.ga K "Machine") ns_Machine (Row.cons tyS (Row.cons tyI (Row.cons (tyP (tyP (tyT (Row.cons tyI (Row.one tyI))))) (Row.cons tyI (Row.cons tyI (Row.cons tyI (Row.one (tyD tyI))))))))) y]) (kn := fun _ => False) F sc_Machine_texts rfl (Nat.le_of_ble_eq_true rfl) rsl_one (fun _ => rfl) (fun _ _ h => h.elim) (fun cdv A outer s H E hr y k => (y_ret (Γ := [.fz (tyO (He.ga K "Machine") ns_Machine (Row.cons tyS (Row.cons tyI (Row.cons (tyP (tyP (tyT (Row.cons tyI (Row.one tyI))))) (Row.cons tyI (Row.cons tyI (Row.cons tyI (Row.one (tyD tyI))))))))) y]) (xe_tupleL T.l_tuple (xl_of (xe_f (xf_sortDk rfl hr.units T.l_sorted (xd_of (xe_fld T.c_Machine T.n_Machine_weights nd_Machine rfl (ra_succ (ra_succ (ra_succ (ra_succ (ra_succ (ra_succ ra_one)))))) (xe_var 0 rfl rfl (.inl rfl)))))))) id))
theorem ok_Machine_texts (T : Txt K mg) : CleM P w K mg base (He.ga K "Machine") "texts" 1 (spP (Row.one (tyO (He.ga K "Machine") ns_Machine (Row.cons tyS (Row.cons tyI (Row.cons (tyP (tyP (tyT (Row.cons tyI (Row.one tyI))))) (Row.cons tyI (Row.cons tyI (Row.cons tyI (Row.one (tyD tyI)))))))))) (tyP tyS) (w_Machine_texts)) :=
  let ⟨_, F⟩ := T.f_Machine_texts
  ⟨_, _, _, fo_Machine_texts T F, T.m_Machine_texts, F.bindsN (fun _ _ _ _ _ _ us hl => match us, hl with | [_], _ => rfl)⟩
/-! Marking.texts -/
theorem sc_Marking_texts : FnScope ["self", "weight", "text", "accused"] ["self"] (defScope s_Marking_texts) := ⟨rfl, rfl, rfl, by decide +kernel, rfl, by decide +kernel, by decide +kernel⟩
def w_Marking_texts (y : (((List (Int × Str × (List (Str)))) × Int))) (k : List (Str) → Prop) : Prop :=
  (y.1).length < sizeLine ∧ ((((y.1.map fun x1 => x1.2.1)).length + 1 < scanBound ∧ (k (sortS (uniq (y.1.map fun x1 => x1.2.1))))))
theorem fo_Marking_texts {fd : FuncData} (T : Txt K mg) (F : FunD K "texts" "Marking.texts" (defArgs s_Marking_texts) (defBody s_Marking_texts) (defScope s_Marking_texts) [] [] (He.fAd K ("Marking", some "texts")) fd) : FnOk P w K mg base CX0 1 (He.fAd K ("Marking", some "texts")) fd ["self"] (spP (Row.one (tyO (He.ga K "Marking") ns_Marking (Row.cons (tyP (tyT (Row.cons tyI (Row.cons tyS (Row.one (tyP tyS)))))) (Row.one tyI)))) (tyP tyS) (w_Marking_texts)) :=
  fn_P (Γ0 := fun y => [.fz (tyO (He.ga K "Marking") ns_Marking (Row.cons (tyP (tyT (Row.cons tyI (Row.cons tyS (Row.one (tyP tyS)))))) (Row.one tyI))) y, .no, .no, .no]) (kn := fun _ => False) F sc_Marking_texts rfl (Nat.le_of_ble_eq_true rfl) rsl_one (fun _ => rfl) (fun _ _ h => h.elim) (fun cdv A outer s H E hr y k => (y_ret (Γ := [.fz (tyO (He.ga K "Marking") ns_Marking (Row.cons (tyP (tyT (Row.cons tyI (Row.cons tyS (Row.one (tyP tyS)))))) (Row.one tyI))) y, .no, .no, .no]) (xe_tupleL T.l_tuple (xl_of (xe_f (xf_sortSet rfl hr.units T.l_sorted T.l_set (xl_of (xe_f (xf_c (xc_lcm (f := fun x1 => x1.2.1) (B := tyS) (ΓT := fun (x1 : Int × Str × (List (Str))) => [.fz (tyO (He.ga K "Marking") ns_Marking (Row.cons (tyP (tyT (Row.cons tyI (Row.cons tyS (Row.one (tyP tyS)))))) (Row.one tyI))) y, .fz tyI x1.1, .fz tyS x1.2.1, .fz (tyP tyS) x1.2.2]) [("weight", 1), ("text", 2), ("accused", 3)] rfl sc_Marking_texts.nd (xi_tup (xe_fld T.c_Marking T.n_Marking_entries nd_Marking rfl ra_zero (xe_var 0 rfl rfl (.inl rfl)))) (by show blkC ["self", "weight", "text", "accused"] (defScope s_Marking_texts) _ [("weight", 1), ("text", 2), ("accused", 3)] = true; decide +kernel) (fun _ _ _ _ _ => (xg_tup rfl (xgs_cons (xg_name 1 sc_Marking_texts.nd rfl (.inl rfl)) (fun _ => (xgs_cons (xg_name 2 sc_Marking_texts.nd rfl (.inl rfl)) (fun _ => (xgs_one (xg_name 3 sc_Marking_texts.nd rfl (.inl rfl))))))))) (by decide) (fun _ _ _ _ _ x1 => (xe_var 2 rfl rfl (.inl rfl))) rfl)))))))) id))
theorem ok_Marking_texts (T : Txt K mg) : CleM P w K mg base (He.ga K "Marking") "texts" 1 (spP (Row.one (tyO (He.ga K "Marking") ns_Marking (Row.cons (tyP (tyT (Row.cons tyI (Row.cons tyS (Row.one (tyP tyS)))))) (Row.one tyI)))) (tyP tyS) (w_Marking_texts)) :=
  let ⟨_, F⟩ := T.f_Marking_texts
  ⟨_, _, _, fo_Marking_texts T F, T.m_Marking_texts, F.bindsN (fun _ _ _ _ _ _ us hl => match us, hl with | [_], _ => rfl)⟩
/-! Marking.written_share -/
theorem sc_Marking_written_share : FnScope ["self", "text", "weight", "own", "accused"] ["self", "text"] (defScope s_Marking_written_share) := ⟨rfl, rfl, rfl, by decide +kernel, rfl, by decide +kernel, by decide +kernel⟩
def w_Marking_written_share (y : (((List (Int × Str × (List (Str)))) × Int)) × Str) (k : (Int × Int) → Prop) : Prop :=
  (y.1.1).length < sizeLine ∧ (w_Share___init__ ((((y.1.1.filter fun x1 => (decide (x1.2.1 = y.2))).map fun x1 => x1.1)).sum, y.1.2) (fun r2 => k r2))
theorem fo_Marking_written_share {fd : FuncData} (T : Txt K mg) (F : FunD K "written_share" "Marking.written_share" (defArgs s_Marking_written_share) (defBody s_Marking_written_share) (defScope s_Marking_written_share) [] [] (He.fAd K ("Marking", some "written_share")) fd) : FnOk P w K mg base CX0 4 (He.fAd K ("Marking", some "written_share")) fd ["self", "text"] (spP (Row.cons (tyO (He.ga K "Marking") ns_Marking (Row.cons (tyP (tyT (Row.cons tyI (Row.cons tyS (Row.one (tyP tyS)))))) (Row.one tyI))) (Row.one tyS)) (tyO (He.ga K "Share") ns_Share (Row.cons tyI (Row.one tyI))) (w_Marking_written_share)) :=
  fn_P (Γ0 := fun y => [.fz (tyO (He.ga K "Marking") ns_Marking (Row.cons (tyP (tyT (Row.cons tyI (Row.cons tyS (Row.one (tyP tyS)))))) (Row.one tyI))) y.1, .fz tyS y.2, .no, .no, .no]) (kn := fun _ => False) F sc_Marking_written_share rfl (Nat.le_of_ble_eq_true rfl) (rsl_cons rsl_one) (fun _ => rfl) (fun _ _ h => h.elim) (fun cdv A outer s H E hr y k => (y_ret (Γ := [.fz (tyO (He.ga K "Marking") ns_Marking (Row.cons (tyP (tyT (Row.cons tyI (Row.cons tyS (Row.one (tyP tyS)))))) (Row.one tyI))) y.1, .fz tyS y.2, .no, .no, .no]) (xe_make (ok_Share___init__ T) (hr.mono (by decide)) (xa_cons (xe_sum rfl T.l_sum (xl_of (xe_f (xf_c (xc_lcf (f := fun x1 => x1.1) (g := fun x1 => (decide (x1.2.1 = y.2))) (B := tyI) (ΓT := fun (x1 : Int × Str × (List (Str))) => [.fz (tyO (He.ga K "Marking") ns_Marking (Row.cons (tyP (tyT (Row.cons tyI (Row.cons tyS (Row.one (tyP tyS)))))) (Row.one tyI))) y.1, .fz tyS y.2, .fz tyI x1.1, .fz tyS x1.2.1, .fz (tyP tyS) x1.2.2]) [("weight", 2), ("own", 3), ("accused", 4)] rfl sc_Marking_written_share.nd (xi_tup (xe_fld T.c_Marking T.n_Marking_entries nd_Marking rfl ra_zero (xe_var 0 rfl rfl (.inl rfl)))) (by show blkC ["self", "text", "weight", "own", "accused"] (defScope s_Marking_written_share) _ [("weight", 2), ("own", 3), ("accused", 4)] = true; decide +kernel) (fun _ _ _ _ _ => (xg_tup rfl (xgs_cons (xg_name 2 sc_Marking_written_share.nd rfl (.inl rfl)) (fun _ => (xgs_cons (xg_name 3 sc_Marking_written_share.nd rfl (.inl rfl)) (fun _ => (xgs_one (xg_name 4 sc_Marking_written_share.nd rfl (.inl rfl))))))))) (by decide) (fun _ _ _ _ _ x1 => (xts_one (xt_eq (xe_var 3 rfl rfl (.inl rfl)) (xe_var 1 rfl rfl (.inr (.inl rfl)))))) (fun _ _ _ _ _ x1 => (xe_var 2 rfl rfl (.inl rfl))) rfl rfl))))) (xa_one (xe_fld T.c_Marking T.n_Marking_whole nd_Marking rfl (ra_succ ra_one) (xe_var 0 rfl rfl (.inl rfl)))))) id))
theorem ok_Marking_written_share (T : Txt K mg) : CleM P w K mg base (He.ga K "Marking") "written_share" 4 (spP (Row.cons (tyO (He.ga K "Marking") ns_Marking (Row.cons (tyP (tyT (Row.cons tyI (Row.cons tyS (Row.one (tyP tyS)))))) (Row.one tyI))) (Row.one tyS)) (tyO (He.ga K "Share") ns_Share (Row.cons tyI (Row.one tyI))) (w_Marking_written_share)) :=
  let ⟨_, F⟩ := T.f_Marking_written_share
  ⟨_, _, _, fo_Marking_written_share T F, T.m_Marking_written_share, F.bindsN (fun _ _ _ _ _ _ us hl => match us, hl with | [_, _], _ => rfl)⟩
/-! Share.__eq__ -/
theorem sc_Share___eq__ : FnScope ["self", "other"] ["self", "other"] (defScope s_Share___eq__) := ⟨rfl, rfl, rfl, by decide +kernel, rfl, by decide +kernel, by decide +kernel⟩
def w_Share___eq__ (y : ((Int × Int)) × ((Int × Int))) (k : Bool → Prop) : Prop :=
  k (true && ((decide (y.1.1 = y.2.1)) && (decide (y.1.2 = y.2.2))))
theorem fo_Share___eq__ {fd : FuncData} (T : Txt K mg) (F : FunD K "__eq__" "Share.__eq__" (defArgs s_Share___eq__) (defBody s_Share___eq__) (defScope s_Share___eq__) [] [] (He.fAd K ("Share", some "__eq__")) fd) : FnOk P w K mg base CX0 1 (He.fAd K ("Share", some "__eq__")) fd ["self", "other"] (spP (Row.cons (tyO (He.ga K "Share") ns_Share (Row.cons tyI (Row.one tyI))) (Row.one (tyO (He.ga K "Share") ns_Share (Row.cons tyI (Row.one tyI))))) tyB (w_Share___eq__)) :=
  fn_P (Γ0 := fun y => [.fz (tyO (He.ga K "Share") ns_Share (Row.cons tyI (Row.one tyI))) y.1, .fz (tyO (He.ga K "Share") ns_Share (Row.cons tyI (Row.one tyI))) y.2]) (kn := fun _ => False) F sc_Share___eq__ rfl (Nat.le_of_ble_eq_true rfl) (rsl_cons rsl_one) (fun _ => rfl) (fun _ _ h => h.elim) (fun cdv A outer s H E hr y k => (y_ret (Γ := [.fz (tyO (He.ga K "Share") ns_Share (Row.cons tyI (Row.one tyI))) y.1, .fz (tyO (He.ga K "Share") ns_Share (Row.cons tyI (Row.one tyI))) y.2]) (xe_andp (xe_isiO T.l_isinstance T.g_Share T.i_Share (xe_var 1 rfl rfl (.inl rfl))) (xe_andp (xe_eq (xe_fld T.c_Share T.n_Share_over nd_Share rfl ra_zero (xe_var 0 rfl rfl (.inl rfl))) (xe_fld T.c_Share T.n_Share_over nd_Share rfl ra_zero (xe_var 1 rfl rfl (.inl rfl)))) (xe_one (xe_eq (xe_fld T.c_Share T.n_Share_under nd_Share rfl (ra_succ ra_one) (xe_var 0 rfl rfl (.inl rfl))) (xe_fld T.c_Share T.n_Share_under nd_Share rfl (ra_succ ra_one) (xe_var 1 rfl rfl (.inl rfl))))) rfl) rfl) id))
theorem ok_Share___eq__ (T : Txt K mg) : CleM P w K mg base (He.ga K "Share") "__eq__" 1 (spP (Row.cons (tyO (He.ga K "Share") ns_Share (Row.cons tyI (Row.one tyI))) (Row.one (tyO (He.ga K "Share") ns_Share (Row.cons tyI (Row.one tyI))))) tyB (w_Share___eq__)) :=
  let ⟨_, F⟩ := T.f_Share___eq__
  ⟨_, _, _, fo_Share___eq__ T F, T.m_Share___eq__, F.bindsN (fun _ _ _ _ _ _ us hl => match us, hl with | [_, _], _ => rfl)⟩
/-! Table.weight_of -/
theorem sc_Table_weight_of : FnScope ["self", "text"] ["self", "text"] (defScope s_Table_weight_of) := ⟨rfl, rfl, rfl, by decide +kernel, rfl, by decide +kernel, by decide +kernel⟩
def w_Table_weight_of (y : (((List (Str × (Int))) × Int)) × Str) (k : Int → Prop) : Prop :=
  k ((look y.1.1 y.2).getD (0 : Int))
theorem fo_Table_weight_of {fd : FuncData} (T : Txt K mg) (F : FunD K "weight_of" "Table.weight_of" (defArgs s_Table_weight_of) (defBody s_Table_weight_of) (defScope s_Table_weight_of) [] [] (He.fAd K ("Table", some "weight_of")) fd) : FnOk P w K mg base CX0 1 (He.fAd K ("Table", some "weight_of")) fd ["self", "text"] (spP (Row.cons (tyO (He.ga K "Table") ns_Table (Row.cons (tyD tyI) (Row.one tyI))) (Row.one tyS)) tyI (w_Table_weight_of)) :=
  fn_P (Γ0 := fun y => [.fz (tyO (He.ga K "Table") ns_Table (Row.cons (tyD tyI) (Row.one tyI))) y.1, .fz tyS y.2]) (kn := fun _ => False) F sc_Table_weight_of rfl (Nat.le_of_ble_eq_true rfl) (rsl_cons rsl_one) (fun _ => rfl) (fun _ _ h => h.elim) (fun cdv A outer s H E hr y k => (y_ret (Γ := [.fz (tyO (He.ga K "Table") ns_Table (Row.cons (tyD tyI) (Row.one tyI))) y.1, .fz tyS y.2]) (xe_getD (hu_of hr) (xd_of (xe_fld T.c_Table T.n_Table_weights nd_Table rfl ra_zero (xe_var 0 rfl rfl (.inl rfl)))) (xe_var 1 rfl rfl (.inl rfl)) xe_int ⟨rfl, rfl, rfl, rfl⟩) id))
theorem ok_Table_weight_of (T : Txt K mg) : CleM P w K mg base (He.ga K "Table") "weight_of" 1 (spP (Row.cons (tyO (He.ga K "Table") ns_Table (Row.cons (tyD tyI) (Row.one tyI))) (Row.one tyS)) tyI (w_Table_weight_of)) :=
  let ⟨_, F⟩ := T.f_Table_weight_of
  ⟨_, _, _, fo_Table_weight_of T F, T.m_Table_weight_of, F.bindsN (fun _ _ _ _ _ _ us hl => match us, hl with | [_, _], _ => rfl)⟩
/-! Table.share_of -/
theorem sc_Table_share_of : FnScope ["self", "text"] ["self", "text"] (defScope s_Table_share_of) := ⟨rfl, rfl, rfl, by decide +kernel, rfl, by decide +kernel, by decide +kernel⟩
def w_Table_share_of (y : (((List (Str × (Int))) × Int)) × Str) (k : (Int × Int) → Prop) : Prop :=
  w_Table_weight_of (y.1, y.2) (fun r1 => w_Share___init__ (r1, y.1.2) (fun r2 => k r2))
theorem fo_Table_share_of {fd : FuncData} (T : Txt K mg) (F : FunD K "share_of" "Table.share_of" (defArgs s_Table_share_of) (defBody s_Table_share_of) (defScope s_Table_share_of) [] [] (He.fAd K ("Table", some "share_of")) fd) : FnOk P w K mg base CX0 4 (He.fAd K ("Table", some "share_of")) fd ["self", "text"] (spP (Row.cons (tyO (He.ga K "Table") ns_Table (Row.cons (tyD tyI) (Row.one tyI))) (Row.one tyS)) (tyO (He.ga K "Share") ns_Share (Row.cons tyI (Row.one tyI))) (w_Table_share_of)) :=
  fn_P (Γ0 := fun y => [.fz (tyO (He.ga K "Table") ns_Table (Row.cons (tyD tyI) (Row.one tyI))) y.1, .fz tyS y.2]) (kn := fun _ => False) F sc_Table_share_of rfl (Nat.le_of_ble_eq_true rfl) (rsl_cons rsl_one) (fun _ => rfl) (fun _ _ h => h.elim) (fun cdv A outer s H E hr y k => (y_ret (Γ := [.fz (tyO (He.ga K "Table") ns_Table (Row.cons (tyD tyI) (Row.one tyI))) y.1, .fz tyS y.2]) (xe_make (ok_Share___init__ T) (hr.mono (by decide)) (xa_cons (xe_meth T.c_Table (ok_Table_weight_of T) (hr.mono (by decide)) (by decide +kernel) (xe_var 0 rfl rfl (.inl rfl)) (xa_one (xe_var 1 rfl rfl (.inl rfl)))) (xa_one (xe_fld T.c_Table T.n_Table_whole nd_Table rfl (ra_succ ra_one) (xe_var 0 rfl rfl (.inl rfl)))))) id))
theorem ok_Table_share_of (T : Txt K mg) : CleM P w K mg base (He.ga K "Table") "share_of" 4 (spP (Row.cons (tyO (He.ga K "Table") ns_Table (Row.cons (tyD tyI) (Row.one tyI))) (Row.one tyS)) (tyO (He.ga K "Share") ns_Share (Row.cons tyI (Row.one tyI))) (w_Table_share_of)) :=
  let ⟨_, F⟩ := T.f_Table_share_of
  ⟨_, _, _, fo_Table_share_of T F, T.m_Table_share_of, F.bindsN (fun _ _ _ _ _ _ us hl => match us, hl with | [_, _], _ => rfl)⟩
/-! Table.texts -/
theorem sc_Table_texts : FnScope ["self"] ["self"] (defScope s_Table_texts) := ⟨rfl, rfl, rfl, by decide +kernel, rfl, by decide +kernel, by decide +kernel⟩
def w_Table_texts (y : (((List (Str × (Int))) × Int))) (k : List (Str) → Prop) : Prop :=
  k (sortS (keys y.1))
theorem fo_Table_texts {fd : FuncData} (T : Txt K mg) (F : FunD K "texts" "Table.texts" (defArgs s_Table_texts) (defBody s_Table_texts) (defScope s_Table_texts) [] [] (He.fAd K ("Table", some "texts")) fd) : FnOk P w K mg base CX0 1 (He.fAd K ("Table", some "texts")) fd ["self"] (spP (Row.one (tyO (He.ga K "Table") ns_Table (Row.cons (tyD tyI) (Row.one tyI)))) (tyP tyS) (w_Table_texts)) :=
  fn_P (Γ0 := fun y => [.fz (tyO (He.ga K "Table") ns_Table (Row.cons (tyD tyI) (Row.one tyI))) y]) (kn := fun _ => False) F sc_Table_texts rfl (Nat.le_of_ble_eq_true rfl) rsl_one (fun _ => rfl) (fun _ _ h => h.elim) (fun cdv A outer s H E hr y k => (y_ret (Γ := [.fz (tyO (He.ga K "Table") ns_Table (Row.cons (tyD tyI) (Row.one tyI))) y]) (xe_tupleL T.l_tuple (xl_of (xe_f (xf_sortDk rfl hr.units T.l_sorted (xd_of (xe_fld T.c_Table T.n_Table_weights nd_Table rfl ra_zero (xe_var 0 rfl rfl (.inl rfl)))))))) id))
theorem ok_Table_texts (T : Txt K mg) : CleM P w K mg base (He.ga K "Table") "texts" 1 (spP (Row.one (tyO (He.ga K "Table") ns_Table (Row.cons (tyD tyI) (Row.one tyI)))) (tyP tyS) (w_Table_texts)) :=
  let ⟨_, F⟩ := T.f_Table_texts
  ⟨_, _, _, fo_Table_texts T F, T.m_Table_texts, F.bindsN (fun _ _ _ _ _ _ us hl => match us, hl with | [_], _ => rfl)⟩
/-! seen_at -/
theorem sc_seen_at : FnScope ["source", "marking", "texts", "text"] ["source", "marking"] (defScope s_seen_at) := ⟨rfl, rfl, rfl, by decide +kernel, rfl, by decide +kernel, by decide +kernel⟩
def w_seen_at (y : (((List (Str × (Int))) × Int)) × (((List (Int × Str × (List (Str)))) × Int))) (k : Option (Str) → Prop) : Prop :=
  w_Table_texts y.1 (fun r1 => w_Marking_texts y.2 (fun r2 => (r1).length + (r2).length ≤ sizeLine ∧ (((r1 ++ r2)).length < sizeLine ∧ ((Bnd (dictOf ((r1 ++ r2).map fun x3 => (x3, true))) fun texts_4 => WFor (sortS (keys texts_4)) () (fun (nx7 : Unit → Prop) (s5 : Unit) x6 => w_Marking_written_share (y.2, x6) (fun r9 => w_Table_share_of (y.1, x6) (fun r10 => w_Share___eq__ (r9, r10) (fun r11 => if (!r11) = true then (k (some x6)) else (nx7 ()))))) (fun (s5 : Unit) => k (none : Option (Str))))))))
theorem fo_seen_at {fd : FuncData} (T : Txt K mg) (F : FunD K "seen_at" "seen_at" (defArgs s_seen_at) (defBody s_seen_at) (defScope s_seen_at) [] [] (He.fAd K ("seen_at", none)) fd) : FnOk P w K mg base CX0 5 (He.fAd K ("seen_at", none)) fd ["source", "marking"] (spP (Row.cons (tyEi (tyO (He.ga K "Table") ns_Table (Row.cons (tyD tyI) (Row.one tyI))) (tyO (He.ga K "Machine") ns_Machine (Row.cons tyS (Row.cons tyI (Row.cons (tyP (tyP (tyT (Row.cons tyI (Row.one tyI))))) (Row.cons tyI (Row.cons tyI (Row.cons tyI (Row.one (tyD tyI))))))))) g_Src) (Row.one (tyO (He.ga K "Marking") ns_Marking (Row.cons (tyP (tyT (Row.cons tyI (Row.cons tyS (Row.one (tyP tyS)))))) (Row.one tyI))))) (tyN tyS) (w_seen_at)) :=
  fn_P (Γ0 := fun y => [.fz (tyEi (tyO (He.ga K "Table") ns_Table (Row.cons (tyD tyI) (Row.one tyI))) (tyO (He.ga K "Machine") ns_Machine (Row.cons tyS (Row.cons tyI (Row.cons (tyP (tyP (tyT (Row.cons tyI (Row.one tyI))))) (Row.cons tyI (Row.cons tyI (Row.cons tyI (Row.one (tyD tyI))))))))) g_Src) y.1, .fz (tyO (He.ga K "Marking") ns_Marking (Row.cons (tyP (tyT (Row.cons tyI (Row.cons tyS (Row.one (tyP tyS)))))) (Row.one tyI))) y.2, .no, .no]) (kn := fun _ => False) F sc_seen_at rfl (Nat.le_of_ble_eq_true rfl) (rsl_cons rsl_one) (fun _ => rfl) (fun _ _ h => h.elim) (fun cdv A outer s H E hr y k => (y_setDC (Γ := [.fz (tyEi (tyO (He.ga K "Table") ns_Table (Row.cons (tyD tyI) (Row.one tyI))) (tyO (He.ga K "Machine") ns_Machine (Row.cons tyS (Row.cons tyI (Row.cons (tyP (tyP (tyT (Row.cons tyI (Row.one tyI))))) (Row.cons tyI (Row.cons tyI (Row.cons tyI (Row.one (tyD tyI))))))))) g_Src) y.1, .fz (tyO (He.ga K "Marking") ns_Marking (Row.cons (tyP (tyT (Row.cons tyI (Row.cons tyS (Row.one (tyP tyS)))))) (Row.one tyI))) y.2, .no, .no]) 2 rfl rfl (xdc_dcm (f := fun x3 => x3) (g := fun x3 => true) (K := tyS) (B := tyB) (ΓT := fun (x3 : Str) => [.fz (tyEi (tyO (He.ga K "Table") ns_Table (Row.cons (tyD tyI) (Row.one tyI))) (tyO (He.ga K "Machine") ns_Machine (Row.cons tyS (Row.cons tyI (Row.cons (tyP (tyP (tyT (Row.cons tyI (Row.one tyI))))) (Row.cons tyI (Row.cons tyI (Row.cons tyI (Row.one (tyD tyI))))))))) g_Src) y.1, .fz (tyO (He.ga K "Marking") ns_Marking (Row.cons (tyP (tyT (Row.cons tyI (Row.cons tyS (Row.one (tyP tyS)))))) (Row.one tyI))) y.2, .no, .fz tyS x3]) [("text", 3)] rfl sc_seen_at.nd (xi_tup (xe_catP (xe_meth20 (g := g_Src) T.c_Table T.c_Machine (ok_Table_texts T) (ok_Machine_texts T) (hr.mono (by decide)) (hr.mono (by decide)) (by decide +kernel) (by decide +kernel) (fun _ _ h => h) (xe_var 0 rfl rfl (.inl rfl))) (xe_meth0 T.c_Marking (ok_Marking_texts T) (hr.mono (by decide)) (by decide +kernel) (xe_var 1 rfl rfl (.inl rfl))))) (by show blkC ["source", "marking", "texts", "text"] (defScope s_seen_at) _ [("text", 3)] = true; decide +kernel) (fun _ _ _ _ _ => (xg_name 3 sc_seen_at.nd rfl (.inl rfl))) (by decide) (fun _ _ _ _ _ x3 => (xe_var 3 rfl rfl (.inl rfl))) (fun _ _ _ _ _ x3 => xe_bl) rfl rfl) id (fun texts_4 => (xb_cv (cv_md 2 rfl) (y_for (Γ := [.fz (tyEi (tyO (He.ga K "Table") ns_Table (Row.cons (tyD tyI) (Row.one tyI))) (tyO (He.ga K "Machine") ns_Machine (Row.cons tyS (Row.cons tyI (Row.cons (tyP (tyP (tyT (Row.cons tyI (Row.one tyI))))) (Row.cons tyI (Row.cons tyI (Row.cons tyI (Row.one (tyD tyI))))))))) g_Src) y.1, .fz (tyO (He.ga K "Marking") ns_Marking (Row.cons (tyP (tyT (Row.cons tyI (Row.cons tyS (Row.one (tyP tyS)))))) (Row.one tyI))) y.2, .fz (tyD tyB) texts_4, .no]) (ΓT := fun (s5 : Unit) (x6 : Str) => [.fz (tyEi (tyO (He.ga K "Table") ns_Table (Row.cons (tyD tyI) (Row.one tyI))) (tyO (He.ga K "Machine") ns_Machine (Row.cons tyS (Row.cons tyI (Row.cons (tyP (tyP (tyT (Row.cons tyI (Row.one tyI))))) (Row.cons tyI (Row.cons tyI (Row.cons tyI (Row.one (tyD tyI))))))))) g_Src) y.1, .fz (tyO (He.ga K "Marking") ns_Marking (Row.cons (tyP (tyT (Row.cons tyI (Row.cons tyS (Row.one (tyP tyS)))))) (Row.one tyI))) y.2, .fz (tyD tyB) texts_4, .fz tyS x6]) (fun s5 : Unit => [.fz (tyEi (tyO (He.ga K "Table") ns_Table (Row.cons (tyD tyI) (Row.one tyI))) (tyO (He.ga K "Machine") ns_Machine (Row.cons tyS (Row.cons tyI (Row.cons (tyP (tyP (tyT (Row.cons tyI (Row.one tyI))))) (Row.cons tyI (Row.cons tyI (Row.cons tyI (Row.one (tyD tyI))))))))) g_Src) y.1, .fz (tyO (He.ga K "Marking") ns_Marking (Row.cons (tyP (tyT (Row.cons tyI (Row.cons tyS (Row.one (tyP tyS)))))) (Row.one tyI))) y.2, .fz (tyD tyB) texts_4, .no]) () PassesOwn.never rfl (xi_list (xe_f (xf_sortDk rfl hr.units T.l_sorted (xd_of (xe_var 2 rfl rfl (.inl rfl)))))) (Cv.refl _) (fun s5 => (xg_name 3 sc_seen_at.nd rfl (.inl rfl))) id (fun nx7 s5 x6 => by exact (y_if1 (Γ := [.fz (tyEi (tyO (He.ga K "Table") ns_Table (Row.cons (tyD tyI) (Row.one tyI))) (tyO (He.ga K "Machine") ns_Machine (Row.cons tyS (Row.cons tyI (Row.cons (tyP (tyP (tyT (Row.cons tyI (Row.one tyI))))) (Row.cons tyI (Row.cons tyI (Row.cons tyI (Row.one (tyD tyI))))))))) g_Src) y.1, .fz (tyO (He.ga K "Marking") ns_Marking (Row.cons (tyP (tyT (Row.cons tyI (Row.cons tyS (Row.one (tyP tyS)))))) (Row.one tyI))) y.2, .fz (tyD tyB) texts_4, .fz tyS x6]) (xt_neO (ok_Share___eq__ T) (hr.mono (by decide)) T.ne_Share (xe_meth T.c_Marking (ok_Marking_written_share T) (hr.mono (by decide)) (by decide +kernel) (xe_var 1 rfl rfl (.inl rfl)) (xa_one (xe_var 3 rfl rfl (.inl rfl)))) (xe_meth2 (g := g_Src) T.c_Table T.c_Machine (ok_Table_share_of T) (ok_Machine_share_of T) (hr.mono (by decide)) (hr.mono (by decide)) (by decide +kernel) (by decide +kernel) (fun _ _ _ h => h) (xe_var 0 rfl rfl (.inl rfl)) (xa_one (xe_var 3 rfl rfl (.inl rfl))))) id (by exact (y_ret (Γ := [.fz (tyEi (tyO (He.ga K "Table") ns_Table (Row.cons (tyD tyI) (Row.one tyI))) (tyO (He.ga K "Machine") ns_Machine (Row.cons tyS (Row.cons tyI (Row.cons (tyP (tyP (tyT (Row.cons tyI (Row.one tyI))))) (Row.cons tyI (Row.cons tyI (Row.cons tyI (Row.one (tyD tyI))))))))) g_Src) y.1, .fz (tyO (He.ga K "Marking") ns_Marking (Row.cons (tyP (tyT (Row.cons tyI (Row.cons tyS (Row.one (tyP tyS)))))) (Row.one tyI))) y.2, .fz (tyD tyB) texts_4, .fz tyS x6]) (xe_some (xe_var 3 rfl rfl (.inl rfl))) id)) (by exact (y_join (ΓJ := fun s5 : Unit => [.fz (tyEi (tyO (He.ga K "Table") ns_Table (Row.cons (tyD tyI) (Row.one tyI))) (tyO (He.ga K "Machine") ns_Machine (Row.cons tyS (Row.cons tyI (Row.cons (tyP (tyP (tyT (Row.cons tyI (Row.one tyI))))) (Row.cons tyI (Row.cons tyI (Row.cons tyI (Row.one (tyD tyI))))))))) g_Src) y.1, .fz (tyO (He.ga K "Marking") ns_Marking (Row.cons (tyP (tyT (Row.cons tyI (Row.cons tyS (Row.one (tyP tyS)))))) (Row.one tyI))) y.2, .fz (tyD tyB) texts_4, .no]) () (Wk.cv (.same (.same (.same (.no .nil))))) rfl id)))) (fun s5 => by exact (y_ret (Γ := [.fz (tyEi (tyO (He.ga K "Table") ns_Table (Row.cons (tyD tyI) (Row.one tyI))) (tyO (He.ga K "Machine") ns_Machine (Row.cons tyS (Row.cons tyI (Row.cons (tyP (tyP (tyT (Row.cons tyI (Row.one tyI))))) (Row.cons tyI (Row.cons tyI (Row.cons tyI (Row.one (tyD tyI))))))))) g_Src) y.1, .fz (tyO (He.ga K "Marking") ns_Marking (Row.cons (tyP (tyT (Row.cons tyI (Row.cons tyS (Row.one (tyP tyS)))))) (Row.one tyI))) y.2, .fz (tyD tyB) texts_4, .no]) xe_nonN id)))))))
theorem ok_seen_at (T : Txt K mg) : Cle P w K mg base "seen_at" 5 (spP (Row.cons (tyEi (tyO (He.ga K "Table") ns_Table (Row.cons (tyD tyI) (Row.one tyI))) (tyO (He.ga K "Machine") ns_Machine (Row.cons tyS (Row.cons tyI (Row.cons (tyP (tyP (tyT (Row.cons tyI (Row.one tyI))))) (Row.cons tyI (Row.cons tyI (Row.cons tyI (Row.one (tyD tyI))))))))) g_Src) (Row.one (tyO (He.ga K "Marking") ns_Marking (Row.cons (tyP (tyT (Row.cons tyI (Row.cons tyS (Row.one (tyP tyS)))))) (Row.one tyI))))) (tyN tyS) (w_seen_at)) :=
  let ⟨_, F⟩ := T.f_seen_at
  ⟨_, _, _, fo_seen_at T F, T.g_seen_at, F.kp, F.bindsN (fun _ _ _ _ _ _ us hl => match us, hl with | [_, _], _ => rfl)⟩
theorem ok_seen_at_k1_marking (T : Txt K mg) : CleK P w K mg base "seen_at" 5 1 ["marking"] (spP (Row.cons (tyEi (tyO (He.ga K "Table") ns_Table (Row.cons (tyD tyI) (Row.one tyI))) (tyO (He.ga K "Machine") ns_Machine (Row.cons tyS (Row.cons tyI (Row.cons (tyP (tyP (tyT (Row.cons tyI (Row.one tyI))))) (Row.cons tyI (Row.cons tyI (Row.cons tyI (Row.one (tyD tyI))))))))) g_Src) (Row.one (tyO (He.ga K "Marking") ns_Marking (Row.cons (tyP (tyT (Row.cons tyI (Row.cons tyS (Row.one (tyP tyS)))))) (Row.one tyI))))) (tyN tyS) (w_seen_at)) :=
  let ⟨_, F⟩ := T.f_seen_at
  ⟨_, _, _, fo_seen_at T F, T.g_seen_at, F.kp, kbn_of F (fun _ _ _ _ _ _ us ws h1 h2 => match us, ws, h1, h2 with | [_], [_], _, _ => rfl)⟩
/-! _law_body -/
theorem sc_law_body : FnScope ["script", "state", "source", "words", "parts", "text", "other", "marking", "changed", "due", "k", "word", "part"] ["script"] (defScope s_law_body) := ⟨rfl, rfl, rfl, by decide +kernel, rfl, by decide +kernel, by decide +kernel⟩
def w_law_body (y : (List Int)) (k : Bool → Prop) : Prop :=
  (w_law_start y (fun u1 => Ist u1 ∧ (w_law_source (24 : Int) (fun r2 => (Bnd r2 fun t3 => (Jn (fun s5 : (List (Str × Int)) × (((List (Str × (Int))) × Int)) => w_law_split s5.1 (fun r6 => (Bnd r6 fun parts_7 => w_law_text (10 : Int) (fun r8 => (Bnd r8 fun text_9 => w_law_changed (parts_7, text_9) (fun r10 => (Bnd r10 fun other_11 => (Jn (fun s13 : (List (Int × Str)) => (parts_7).length < sizeLine ∧ (w_Marking___init__ (parts_7.map fun x14 => (x14.1, x14.2, [x14.2])) (fun r15 => (Bnd r15 fun marking_16 => (s13).length < sizeLine ∧ (w_Marking___init__ (s13.map fun x17 => (x17.1, x17.2, ([] : List (Str)))) (fun r18 => (Bnd r18 fun changed_19 => w_law_seen (s5.1, s13) (fun r20 => (Bnd r20 fun due_21 => (-(2 ^ 62) ≤ (2 : Int) ∧ (2 : Int) < 2 ^ 62) ∧ (WFor (rng 0 ((2 : Int)).toNat) () (fun (nx24 : Unit → Prop) (s22 : Unit) x23 => (let kk30 : Bool → Prop := fun q29 => if q29 = true then (k false) else (nx24 ()); w_seen_at (s5.2, marking_16) (fun r26 => if (!(r26).isNone) = true then kk30 true else (w_seen_at (s5.2, changed_19) (fun r27 => w_law_is_at (r27, due_21) (fun r28 => kk30 (!r28))))))) (fun (s22 : Unit) => k true))))))))))) fun j31 => w_law_draw (4 : Int) (fun r12 => if (decide (r12 = (0 : Int))) = true then (w_law_changed (other_11, text_9) (fun r32 => (Bnd r32 fun other_33 => j31 other_33))) else (j31 other_11)))))))))) fun j34 => (t3.2).length < sizeLine ∧ (((t3.2.map fun x4 => x4.2) ≠ [] ∧ (if (decide ((100000000000000000000000000000000000000 : Int) ≤ (maxL (t3.2.map fun x4 => x4.2)))) = true then (WLc t3.2 (fun x35 kk36 => kk36 true) (fun x35 kk37 => 0 < (100000000000000000000 : Int) ∧ (kk37 (x35.1, ((1 : Int) + (x35.2 % (100000000000000000000 : Int)))))) (fun r38 => (Bnd r38 fun words_39 => w_Table___init__ words_39 (fun r40 => (Bnd r40 fun source_41 => j34 (words_39, source_41)))))) else (j34 (t3.2, t3.1)))))))))))
theorem fo_law_body {fd : FuncData} (T : Txt K mg) (F : FunD K "_law_body" "_law_body" (defArgs s_law_body) (defBody s_law_body) (defScope s_law_body) [] [] (He.fAd K ("_law_body", none)) fd) : FnOk P w K mg base CX0 6 (He.fAd K ("_law_body", none)) fd ["script"] (spP (Row.one (tyZ K)) tyB (w_law_body)) :=
  fn_P (Γ0 := fun y => [.fz (tyZ K) y, .no, .no, .no, .no, .no, .no, .no, .no, .no, .no, .no, .no]) (kn := fun _ => False) F sc_law_body rfl (Nat.le_of_ble_eq_true rfl) rsl_one (fun _ => rfl) (fun _ _ h => h.elim) (fun cdv A outer s H E hr y k => (y_newMx (Γ := [.fz (tyZ K) y, .no, .no, .no, .no, .no, .no, .no, .no, .no, .no, .no, .no]) 1 sc_law_body.nd rfl (.inl rfl) (xn_call (ok_law_start T) (hr.mono (by decide)) (xa_one (xe_var 0 rfl rfl (.inl rfl)))) id (fun _ u1 => y_st 1 rfl id (y_unp (Γ := [.fz (tyZ K) y, .st, .no, .no, .no, .no, .no, .no, .no, .no, .no, .no, .no]) (xe_callS 1 rfl rfl (.inl rfl) (ok_law_source T) (hr.mono (by decide)) (xa_one xe_int)) (xg_lst rfl (xgs_cons (xg_name 2 sc_law_body.nd rfl (.inl rfl)) (fun _ => (xgs_one (xg_name 3 sc_law_body.nd rfl (.inl rfl)))))) id (fun t3 => (y_if (Γ := [.fz (tyZ K) y, .st, .fz (tyEi (tyO (He.ga K "Table") ns_Table (Row.cons (tyD tyI) (Row.one tyI))) (tyO (He.ga K "Machine") ns_Machine (Row.cons tyS (Row.cons tyI (Row.cons (tyP (tyP (tyT (Row.cons tyI (Row.one tyI))))) (Row.cons tyI (Row.cons tyI (Row.cons tyI (Row.one (tyD tyI))))))))) g_Src) t3.1, .fz (tyL (tyT (Row.cons tyS (Row.one tyI)))) t3.2, .no, .no, .no, .no, .no, .no, .no, .no, .no]) (fun s5 : (List (Str × Int)) × (((List (Str × (Int))) × Int)) => [.fz (tyZ K) y, .st, .fz (tyEi (tyO (He.ga K "Table") ns_Table (Row.cons (tyD tyI) (Row.one tyI))) (tyO (He.ga K "Machine") ns_Machine (Row.cons tyS (Row.cons tyI (Row.cons (tyP (tyP (tyT (Row.cons tyI (Row.one tyI))))) (Row.cons tyI (Row.cons tyI (Row.cons tyI (Row.one (tyD tyI))))))))) g_Src) s5.2, .fz (tyL (tyT (Row.cons tyS (Row.one tyI)))) s5.1, .no, .no, .no, .no, .no, .no, .no, .no, .no]) (xt_ge (xe_maxL rfl T.l_max (xl_of (xe_f (xf_c (xc_lcm (f := fun x4 => x4.2) (B := tyI) (ΓT := fun (x4 : Str × Int) => [.fz (tyZ K) y, .st, .fz (tyEi (tyO (He.ga K "Table") ns_Table (Row.cons (tyD tyI) (Row.one tyI))) (tyO (He.ga K "Machine") ns_Machine (Row.cons tyS (Row.cons tyI (Row.cons (tyP (tyP (tyT (Row.cons tyI (Row.one tyI))))) (Row.cons tyI (Row.cons tyI (Row.cons tyI (Row.one (tyD tyI))))))))) g_Src) t3.1, .fz (tyL (tyT (Row.cons tyS (Row.one tyI)))) t3.2, .no, .no, .no, .no, .no, .no, .no, .fz (tyT (Row.cons tyS (Row.one tyI))) x4, .no]) [("word", 11)] rfl sc_law_body.nd (xi_list (xe_var 3 rfl rfl (.inl rfl))) (by show blkC ["script", "state", "source", "words", "parts", "text", "other", "marking", "changed", "due", "k", "word", "part"] (defScope s_law_body) _ [("word", 11)] = true; decide +kernel) (fun _ _ _ _ _ => (xg_name 11 sc_law_body.nd rfl (.inl rfl))) (by decide) (fun _ _ _ _ _ x4 => (xe_itT (xe_var 11 rfl rfl (.inl rfl)) (ra_succ ra_one) xe_int (fun _ _ => rfl))) rfl))))) (xe_powc (n := 100000000000000000000000000000000000000) (by decide +kernel) xe_int xe_int)) id (fun j34 => by exact (y_setC (Γ := [.fz (tyZ K) y, .st, .fz (tyEi (tyO (He.ga K "Table") ns_Table (Row.cons (tyD tyI) (Row.one tyI))) (tyO (He.ga K "Machine") ns_Machine (Row.cons tyS (Row.cons tyI (Row.cons (tyP (tyP (tyT (Row.cons tyI (Row.one tyI))))) (Row.cons tyI (Row.cons tyI (Row.cons tyI (Row.one (tyD tyI))))))))) g_Src) t3.1, .fz (tyL (tyT (Row.cons tyS (Row.one tyI)))) t3.2, .no, .no, .no, .no, .no, .no, .no, .no, .no]) 3 rfl rfl (xc_lc (B := (tyT (Row.cons tyS (Row.one tyI)))) (ΓT := fun (x35 : Str × Int) => [.fz (tyZ K) y, .st, .fz (tyEi (tyO (He.ga K "Table") ns_Table (Row.cons (tyD tyI) (Row.one tyI))) (tyO (He.ga K "Machine") ns_Machine (Row.cons tyS (Row.cons tyI (Row.cons (tyP (tyP (tyT (Row.cons tyI (Row.one tyI))))) (Row.cons tyI (Row.cons tyI (Row.cons tyI (Row.one (tyD tyI))))))))) g_Src) t3.1, .fz (tyL (tyT (Row.cons tyS (Row.one tyI)))) t3.2, .no, .no, .no, .no, .no, .no, .no, .fz (tyT (Row.cons tyS (Row.one tyI))) x35, .no]) [("word", 11)] rfl sc_law_body.nd (xi_list (xe_var 3 rfl rfl (.inl rfl))) (by show blkC ["script", "state", "source", "words", "parts", "text", "other", "marking", "changed", "due", "k", "word", "part"] (defScope s_law_body) _ [("word", 11)] = true; decide +kernel) (fun _ _ _ _ _ => (xg_name 11 sc_law_body.nd rfl (.inl rfl))) (by decide) (fun _ _ _ _ _ x35 => xts_nil) (fun _ _ _ _ _ x35 => (xe_tup (xa_cons (xe_itT (xe_var 11 rfl rfl (.inl rfl)) ra_zero xe_int (fun _ _ => rfl)) (xa_one (xe_add xe_int (xe_mod (xe_int1 T.l_int (xe_itT (xe_var 11 rfl rfl (.inl rfl)) (ra_succ ra_one) xe_int (fun _ _ => rfl))) (xe_powc (n := 100000000000000000000) (by decide +kernel) xe_int xe_int)))))))) id (fun words_39 => xb_cv (cv_ml 3 rfl) (y_set (Γ := [.fz (tyZ K) y, .st, .fz (tyEi (tyO (He.ga K "Table") ns_Table (Row.cons (tyD tyI) (Row.one tyI))) (tyO (He.ga K "Machine") ns_Machine (Row.cons tyS (Row.cons tyI (Row.cons (tyP (tyP (tyT (Row.cons tyI (Row.one tyI))))) (Row.cons tyI (Row.cons tyI (Row.cons tyI (Row.one (tyD tyI))))))))) g_Src) t3.1, .fz (tyL (tyT (Row.cons tyS (Row.one tyI)))) words_39, .no, .no, .no, .no, .no, .no, .no, .no, .no]) 2 sc_law_body.nd rfl (.inl rfl) (xe_inA (xe_make (ok_Table___init__ T) (hr.mono (by decide)) (xa_one (xe_var 3 rfl rfl (.inl rfl))))) id (fun source_41 => (y_join (ΓJ := fun s5 : (List (Str × Int)) × (((List (Str × (Int))) × Int)) => [.fz (tyZ K) y, .st, .fz (tyEi (tyO (He.ga K "Table") ns_Table (Row.cons (tyD tyI) (Row.one tyI))) (tyO (He.ga K "Machine") ns_Machine (Row.cons tyS (Row.cons tyI (Row.cons (tyP (tyP (tyT (Row.cons tyI (Row.one tyI))))) (Row.cons tyI (Row.cons tyI (Row.cons tyI (Row.one (tyD tyI))))))))) g_Src) s5.2, .fz (tyL (tyT (Row.cons tyS (Row.one tyI)))) s5.1, .no, .no, .no, .no, .no, .no, .no, .no, .no]) (words_39, source_41) (Cv.refl _) rfl id)))))) (fun j34 => by exact (y_join (ΓJ := fun s5 : (List (Str × Int)) × (((List (Str × (Int))) × Int)) => [.fz (tyZ K) y, .st, .fz (tyEi (tyO (He.ga K "Table") ns_Table (Row.cons (tyD tyI) (Row.one tyI))) (tyO (He.ga K "Machine") ns_Machine (Row.cons tyS (Row.cons tyI (Row.cons (tyP (tyP (tyT (Row.cons tyI (Row.one tyI))))) (Row.cons tyI (Row.cons tyI (Row.cons tyI (Row.one (tyD tyI))))))))) g_Src) s5.2, .fz (tyL (tyT (Row.cons tyS (Row.one tyI)))) s5.1, .no, .no, .no, .no, .no, .no, .no, .no, .no]) (t3.2, t3.1) (Cv.refl _) rfl id)) (fun s5 => by exact (y_set (Γ := [.fz (tyZ K) y, .st, .fz (tyEi (tyO (He.ga K "Table") ns_Table (Row.cons (tyD tyI) (Row.one tyI))) (tyO (He.ga K "Machine") ns_Machine (Row.cons tyS (Row.cons tyI (Row.cons (tyP (tyP (tyT (Row.cons tyI (Row.one tyI))))) (Row.cons tyI (Row.cons tyI (Row.cons tyI (Row.one (tyD tyI))))))))) g_Src) s5.2, .fz (tyL (tyT (Row.cons tyS (Row.one tyI)))) s5.1, .no, .no, .no, .no, .no, .no, .no, .no, .no]) 4 sc_law_body.nd rfl (.inl rfl) (xe_callS 1 rfl rfl (.inl rfl) (ok_law_split T) (hr.mono (by decide)) (xa_one (xe_var 3 rfl rfl (.inl rfl)))) id (fun parts_7 => (y_set (Γ := [.fz (tyZ K) y, .st, .fz (tyEi (tyO (He.ga K "Table") ns_Table (Row.cons (tyD tyI) (Row.one tyI))) (tyO (He.ga K "Machine") ns_Machine (Row.cons tyS (Row.cons tyI (Row.cons (tyP (tyP (tyT (Row.cons tyI (Row.one tyI))))) (Row.cons tyI (Row.cons tyI (Row.cons tyI (Row.one (tyD tyI))))))))) g_Src) s5.2, .fz (tyL (tyT (Row.cons tyS (Row.one tyI)))) s5.1, .fz (tyL (tyT (Row.cons tyI (Row.one tyS)))) parts_7, .no, .no, .no, .no, .no, .no, .no, .no]) 5 sc_law_body.nd rfl (.inl rfl) (xe_callS 1 rfl rfl (.inl rfl) (ok_law_text T) (hr.mono (by decide)) (xa_one xe_int)) id (fun text_9 => (y_set (Γ := [.fz (tyZ K) y, .st, .fz (tyEi (tyO (He.ga K "Table") ns_Table (Row.cons (tyD tyI) (Row.one tyI))) (tyO (He.ga K "Machine") ns_Machine (Row.cons tyS (Row.cons tyI (Row.cons (tyP (tyP (tyT (Row.cons tyI (Row.one tyI))))) (Row.cons tyI (Row.cons tyI (Row.cons tyI (Row.one (tyD tyI))))))))) g_Src) s5.2, .fz (tyL (tyT (Row.cons tyS (Row.one tyI)))) s5.1, .fz (tyL (tyT (Row.cons tyI (Row.one tyS)))) parts_7, .fz tyS text_9, .no, .no, .no, .no, .no, .no, .no]) 6 sc_law_body.nd rfl (.inl rfl) (xe_callS 1 rfl rfl (.inl rfl) (ok_law_changed T) (hr.mono (by decide)) (xa_cons (xe_var 4 rfl rfl (.inl rfl)) (xa_one (xe_var 5 rfl rfl (.inl rfl))))) id (fun other_11 => (y_if (Γ := [.fz (tyZ K) y, .st, .fz (tyEi (tyO (He.ga K "Table") ns_Table (Row.cons (tyD tyI) (Row.one tyI))) (tyO (He.ga K "Machine") ns_Machine (Row.cons tyS (Row.cons tyI (Row.cons (tyP (tyP (tyT (Row.cons tyI (Row.one tyI))))) (Row.cons tyI (Row.cons tyI (Row.cons tyI (Row.one (tyD tyI))))))))) g_Src) s5.2, .fz (tyL (tyT (Row.cons tyS (Row.one tyI)))) s5.1, .fz (tyL (tyT (Row.cons tyI (Row.one tyS)))) parts_7, .fz tyS text_9, .fz (tyL (tyT (Row.cons tyI (Row.one tyS)))) other_11, .no, .no, .no, .no, .no, .no]) (fun s13 : (List (Int × Str)) => [.fz (tyZ K) y, .st, .fz (tyEi (tyO (He.ga K "Table") ns_Table (Row.cons (tyD tyI) (Row.one tyI))) (tyO (He.ga K "Machine") ns_Machine (Row.cons tyS (Row.cons tyI (Row.cons (tyP (tyP (tyT (Row.cons tyI (Row.one tyI))))) (Row.cons tyI (Row.cons tyI (Row.cons tyI (Row.one (tyD tyI))))))))) g_Src) s5.2, .fz (tyL (tyT (Row.cons tyS (Row.one tyI)))) s5.1, .fz (tyL (tyT (Row.cons tyI (Row.one tyS)))) parts_7, .fz tyS text_9, .fz (tyL (tyT (Row.cons tyI (Row.one tyS)))) s13, .no, .no, .no, .no, .no, .no]) (xt_eq (xe_callS 1 rfl rfl (.inl rfl) (ok_law_draw T) (hr.mono (by decide)) (xa_one xe_int)) xe_int) id (fun j31 => by exact (y_set (Γ := [.fz (tyZ K) y, .st, .fz (tyEi (tyO (He.ga K "Table") ns_Table (Row.cons (tyD tyI) (Row.one tyI))) (tyO (He.ga K "Machine") ns_Machine (Row.cons tyS (Row.cons tyI (Row.cons (tyP (tyP (tyT (Row.cons tyI (Row.one tyI))))) (Row.cons tyI (Row.cons tyI (Row.cons tyI (Row.one (tyD tyI))))))))) g_Src) s5.2, .fz (tyL (tyT (Row.cons tyS (Row.one tyI)))) s5.1, .fz (tyL (tyT (Row.cons tyI (Row.one tyS)))) parts_7, .fz tyS text_9, .fz (tyL (tyT (Row.cons tyI (Row.one tyS)))) other_11, .no, .no, .no, .no, .no, .no]) 6 sc_law_body.nd rfl (.inl rfl) (xe_callS 1 rfl rfl (.inl rfl) (ok_law_changed T) (hr.mono (by decide)) (xa_cons (xe_var 6 rfl rfl (.inl rfl)) (xa_one (xe_var 5 rfl rfl (.inl rfl))))) id (fun other_33 => (y_join (ΓJ := fun s13 : (List (Int × Str)) => [.fz (tyZ K) y, .st, .fz (tyEi (tyO (He.ga K "Table") ns_Table (Row.cons (tyD tyI) (Row.one tyI))) (tyO (He.ga K "Machine") ns_Machine (Row.cons tyS (Row.cons tyI (Row.cons (tyP (tyP (tyT (Row.cons tyI (Row.one tyI))))) (Row.cons tyI (Row.cons tyI (Row.cons tyI (Row.one (tyD tyI))))))))) g_Src) s5.2, .fz (tyL (tyT (Row.cons tyS (Row.one tyI)))) s5.1, .fz (tyL (tyT (Row.cons tyI (Row.one tyS)))) parts_7, .fz tyS text_9, .fz (tyL (tyT (Row.cons tyI (Row.one tyS)))) s13, .no, .no, .no, .no, .no, .no]) other_33 (Cv.refl _) rfl id)))) (fun j31 => by exact (y_join (ΓJ := fun s13 : (List (Int × Str)) => [.fz (tyZ K) y, .st, .fz (tyEi (tyO (He.ga K "Table") ns_Table (Row.cons (tyD tyI) (Row.one tyI))) (tyO (He.ga K "Machine") ns_Machine (Row.cons tyS (Row.cons tyI (Row.cons (tyP (tyP (tyT (Row.cons tyI (Row.one tyI))))) (Row.cons tyI (Row.cons tyI (Row.cons tyI (Row.one (tyD tyI))))))))) g_Src) s5.2, .fz (tyL (tyT (Row.cons tyS (Row.one tyI)))) s5.1, .fz (tyL (tyT (Row.cons tyI (Row.one tyS)))) parts_7, .fz tyS text_9, .fz (tyL (tyT (Row.cons tyI (Row.one tyS)))) s13, .no, .no, .no, .no, .no, .no]) other_11 (Cv.refl _) rfl id)) (fun s13 => by exact (y_set (Γ := [.fz (tyZ K) y, .st, .fz (tyEi (tyO (He.ga K "Table") ns_Table (Row.cons (tyD tyI) (Row.one tyI))) (tyO (He.ga K "Machine") ns_Machine (Row.cons tyS (Row.cons tyI (Row.cons (tyP (tyP (tyT (Row.cons tyI (Row.one tyI))))) (Row.cons tyI (Row.cons tyI (Row.cons tyI (Row.one (tyD tyI))))))))) g_Src) s5.2, .fz (tyL (tyT (Row.cons tyS (Row.one tyI)))) s5.1, .fz (tyL (tyT (Row.cons tyI (Row.one tyS)))) parts_7, .fz tyS text_9, .fz (tyL (tyT (Row.cons tyI (Row.one tyS)))) s13, .no, .no, .no, .no, .no, .no]) 7 sc_law_body.nd rfl (.inl rfl) (xe_make (ok_Marking___init___v1 T) (hr.mono (by decide)) (xa_one (xe_f (xf_c (xc_lcm (f := fun x14 => (x14.1, x14.2, [x14.2])) (B := (tyT (Row.cons tyI (Row.cons tyS (Row.one (tyL tyS)))))) (ΓT := fun (x14 : Int × Str) => [.fz (tyZ K) y, .st, .fz (tyEi (tyO (He.ga K "Table") ns_Table (Row.cons (tyD tyI) (Row.one tyI))) (tyO (He.ga K "Machine") ns_Machine (Row.cons tyS (Row.cons tyI (Row.cons (tyP (tyP (tyT (Row.cons tyI (Row.one tyI))))) (Row.cons tyI (Row.cons tyI (Row.cons tyI (Row.one (tyD tyI))))))))) g_Src) s5.2, .fz (tyL (tyT (Row.cons tyS (Row.one tyI)))) s5.1, .fz (tyL (tyT (Row.cons tyI (Row.one tyS)))) parts_7, .fz tyS text_9, .fz (tyL (tyT (Row.cons tyI (Row.one tyS)))) s13, .no, .no, .no, .no, .no, .fz (tyT (Row.cons tyI (Row.one tyS))) x14]) [("part", 12)] rfl sc_law_body.nd (xi_list (xe_var 4 rfl rfl (.inl rfl))) (by show blkC ["script", "state", "source", "words", "parts", "text", "other", "marking", "changed", "due", "k", "word", "part"] (defScope s_law_body) _ [("part", 12)] = true; decide +kernel) (fun _ _ _ _ _ => (xg_name 12 sc_law_body.nd rfl (.inl rfl))) (by decide) (fun _ _ _ _ _ x14 => (xe_tup (xa_cons (xe_itT (xe_var 12 rfl rfl (.inl rfl)) ra_zero xe_int (fun _ _ => rfl)) (xa_cons (xe_itT (xe_var 12 rfl rfl (.inl rfl)) (ra_succ ra_one) xe_int (fun _ _ => rfl)) (xa_one (xe_f (xf_lst (A := tyS) (xa_conss (xe_itT (xe_var 12 rfl rfl (.inl rfl)) (ra_succ ra_one) xe_int (fun _ _ => rfl)) (xa_nils (A := tyS)))))))))) rfl))))) id (fun marking_16 => (y_set (Γ := [.fz (tyZ K) y, .st, .fz (tyEi (tyO (He.ga K "Table") ns_Table (Row.cons (tyD tyI) (Row.one tyI))) (tyO (He.ga K "Machine") ns_Machine (Row.cons tyS (Row.cons tyI (Row.cons (tyP (tyP (tyT (Row.cons tyI (Row.one tyI))))) (Row.cons tyI (Row.cons tyI (Row.cons tyI (Row.one (tyD tyI))))))))) g_Src) s5.2, .fz (tyL (tyT (Row.cons tyS (Row.one tyI)))) s5.1, .fz (tyL (tyT (Row.cons tyI (Row.one tyS)))) parts_7, .fz tyS text_9, .fz (tyL (tyT (Row.cons tyI (Row.one tyS)))) s13, .fz (tyO (He.ga K "Marking") ns_Marking (Row.cons (tyP (tyT (Row.cons tyI (Row.cons tyS (Row.one (tyP tyS)))))) (Row.one tyI))) marking_16, .no, .no, .no, .no, .no]) 8 sc_law_body.nd rfl (.inl rfl) (xe_make (ok_Marking___init__ T) (hr.mono (by decide)) (xa_one (xe_f (xf_c (xc_lcm (f := fun x17 => (x17.1, x17.2, ([] : List (Str)))) (B := (tyT (Row.cons tyI (Row.cons tyS (Row.one (tyP tyS)))))) (ΓT := fun (x17 : Int × Str) => [.fz (tyZ K) y, .st, .fz (tyEi (tyO (He.ga K "Table") ns_Table (Row.cons (tyD tyI) (Row.one tyI))) (tyO (He.ga K "Machine") ns_Machine (Row.cons tyS (Row.cons tyI (Row.cons (tyP (tyP (tyT (Row.cons tyI (Row.one tyI))))) (Row.cons tyI (Row.cons tyI (Row.cons tyI (Row.one (tyD tyI))))))))) g_Src) s5.2, .fz (tyL (tyT (Row.cons tyS (Row.one tyI)))) s5.1, .fz (tyL (tyT (Row.cons tyI (Row.one tyS)))) parts_7, .fz tyS text_9, .fz (tyL (tyT (Row.cons tyI (Row.one tyS)))) s13, .fz (tyO (He.ga K "Marking") ns_Marking (Row.cons (tyP (tyT (Row.cons tyI (Row.cons tyS (Row.one (tyP tyS)))))) (Row.one tyI))) marking_16, .no, .no, .no, .no, .fz (tyT (Row.cons tyI (Row.one tyS))) x17]) [("part", 12)] rfl sc_law_body.nd (xi_list (xe_var 6 rfl rfl (.inl rfl))) (by show blkC ["script", "state", "source", "words", "parts", "text", "other", "marking", "changed", "due", "k", "word", "part"] (defScope s_law_body) _ [("part", 12)] = true; decide +kernel) (fun _ _ _ _ _ => (xg_name 12 sc_law_body.nd rfl (.inl rfl))) (by decide) (fun _ _ _ _ _ x17 => (xe_tup (xa_cons (xe_itT (xe_var 12 rfl rfl (.inl rfl)) ra_zero xe_int (fun _ _ => rfl)) (xa_cons (xe_itT (xe_var 12 rfl rfl (.inl rfl)) (ra_succ ra_one) xe_int (fun _ _ => rfl)) (xa_one (xe_tups (xa_nils (A := tyS)))))))) rfl))))) id (fun changed_19 => (y_set (Γ := [.fz (tyZ K) y, .st, .fz (tyEi (tyO (He.ga K "Table") ns_Table (Row.cons (tyD tyI) (Row.one tyI))) (tyO (He.ga K "Machine") ns_Machine (Row.cons tyS (Row.cons tyI (Row.cons (tyP (tyP (tyT (Row.cons tyI (Row.one tyI))))) (Row.cons tyI (Row.cons tyI (Row.cons tyI (Row.one (tyD tyI))))))))) g_Src) s5.2, .fz (tyL (tyT (Row.cons tyS (Row.one tyI)))) s5.1, .fz (tyL (tyT (Row.cons tyI (Row.one tyS)))) parts_7, .fz tyS text_9, .fz (tyL (tyT (Row.cons tyI (Row.one tyS)))) s13, .fz (tyO (He.ga K "Marking") ns_Marking (Row.cons (tyP (tyT (Row.cons tyI (Row.cons tyS (Row.one (tyP tyS)))))) (Row.one tyI))) marking_16, .fz (tyO (He.ga K "Marking") ns_Marking (Row.cons (tyP (tyT (Row.cons tyI (Row.cons tyS (Row.one (tyP tyS)))))) (Row.one tyI))) changed_19, .no, .no, .no, .no]) 9 sc_law_body.nd rfl (.inl rfl) (xe_call (ok_law_seen T) (hr.mono (by decide)) (xa_cons (xe_var 3 rfl rfl (.inl rfl)) (xa_one (xe_var 6 rfl rfl (.inl rfl))))) id (fun due_21 => (y_for (Γ := [.fz (tyZ K) y, .st, .fz (tyEi (tyO (He.ga K "Table") ns_Table (Row.cons (tyD tyI) (Row.one tyI))) (tyO (He.ga K "Machine") ns_Machine (Row.cons tyS (Row.cons tyI (Row.cons (tyP (tyP (tyT (Row.cons tyI (Row.one tyI))))) (Row.cons tyI (Row.cons tyI (Row.cons tyI (Row.one (tyD tyI))))))))) g_Src) s5.2, .fz (tyL (tyT (Row.cons tyS (Row.one tyI)))) s5.1, .fz (tyL (tyT (Row.cons tyI (Row.one tyS)))) parts_7, .fz tyS text_9, .fz (tyL (tyT (Row.cons tyI (Row.one tyS)))) s13, .fz (tyO (He.ga K "Marking") ns_Marking (Row.cons (tyP (tyT (Row.cons tyI (Row.cons tyS (Row.one (tyP tyS)))))) (Row.one tyI))) marking_16, .fz (tyO (He.ga K "Marking") ns_Marking (Row.cons (tyP (tyT (Row.cons tyI (Row.cons tyS (Row.one (tyP tyS)))))) (Row.one tyI))) changed_19, .fz (tyN tyS) due_21, .no, .no, .no]) (ΓT := fun (s22 : Unit) (x23 : Int) => [.fz (tyZ K) y, .st, .fz (tyEi (tyO (He.ga K "Table") ns_Table (Row.cons (tyD tyI) (Row.one tyI))) (tyO (He.ga K "Machine") ns_Machine (Row.cons tyS (Row.cons tyI (Row.cons (tyP (tyP (tyT (Row.cons tyI (Row.one tyI))))) (Row.cons tyI (Row.cons tyI (Row.cons tyI (Row.one (tyD tyI))))))))) g_Src) s5.2, .fz (tyL (tyT (Row.cons tyS (Row.one tyI)))) s5.1, .fz (tyL (tyT (Row.cons tyI (Row.one tyS)))) parts_7, .fz tyS text_9, .fz (tyL (tyT (Row.cons tyI (Row.one tyS)))) s13, .fz (tyO (He.ga K "Marking") ns_Marking (Row.cons (tyP (tyT (Row.cons tyI (Row.cons tyS (Row.one (tyP tyS)))))) (Row.one tyI))) marking_16, .fz (tyO (He.ga K "Marking") ns_Marking (Row.cons (tyP (tyT (Row.cons tyI (Row.cons tyS (Row.one (tyP tyS)))))) (Row.one tyI))) changed_19, .fz (tyN tyS) due_21, .fz tyI x23, .no, .no]) (fun s22 : Unit => [.fz (tyZ K) y, .st, .fz (tyEi (tyO (He.ga K "Table") ns_Table (Row.cons (tyD tyI) (Row.one tyI))) (tyO (He.ga K "Machine") ns_Machine (Row.cons tyS (Row.cons tyI (Row.cons (tyP (tyP (tyT (Row.cons tyI (Row.one tyI))))) (Row.cons tyI (Row.cons tyI (Row.cons tyI (Row.one (tyD tyI))))))))) g_Src) s5.2, .fz (tyL (tyT (Row.cons tyS (Row.one tyI)))) s5.1, .fz (tyL (tyT (Row.cons tyI (Row.one tyS)))) parts_7, .fz tyS text_9, .fz (tyL (tyT (Row.cons tyI (Row.one tyS)))) s13, .fz (tyO (He.ga K "Marking") ns_Marking (Row.cons (tyP (tyT (Row.cons tyI (Row.cons tyS (Row.one (tyP tyS)))))) (Row.one tyI))) marking_16, .fz (tyO (He.ga K "Marking") ns_Marking (Row.cons (tyP (tyT (Row.cons tyI (Row.cons tyS (Row.one (tyP tyS)))))) (Row.one tyI))) changed_19, .fz (tyN tyS) due_21, .no, .no, .no]) () PassesOwn.never rfl (xi_range T.l_range xe_int) (Cv.refl _) (fun s22 => (xg_name 10 sc_law_body.nd rfl (.inl rfl))) id (fun nx24 s22 x23 => by exact (y_if1 (Γ := [.fz (tyZ K) y, .st, .fz (tyEi (tyO (He.ga K "Table") ns_Table (Row.cons (tyD tyI) (Row.one tyI))) (tyO (He.ga K "Machine") ns_Machine (Row.cons tyS (Row.cons tyI (Row.cons (tyP (tyP (tyT (Row.cons tyI (Row.one tyI))))) (Row.cons tyI (Row.cons tyI (Row.cons tyI (Row.one (tyD tyI))))))))) g_Src) s5.2, .fz (tyL (tyT (Row.cons tyS (Row.one tyI)))) s5.1, .fz (tyL (tyT (Row.cons tyI (Row.one tyS)))) parts_7, .fz tyS text_9, .fz (tyL (tyT (Row.cons tyI (Row.one tyS)))) s13, .fz (tyO (He.ga K "Marking") ns_Marking (Row.cons (tyP (tyT (Row.cons tyI (Row.cons tyS (Row.one (tyP tyS)))))) (Row.one tyI))) marking_16, .fz (tyO (He.ga K "Marking") ns_Marking (Row.cons (tyP (tyT (Row.cons tyI (Row.cons tyS (Row.one (tyP tyS)))))) (Row.one tyI))) changed_19, .fz (tyN tyS) due_21, .fz tyI x23, .no, .no]) (xt_w (xw_or (xt_notN (xe_call (ok_seen_at T) (hr.mono (by decide)) (xa_cons (xe_var 2 rfl rfl (.inl rfl)) (xa_one (xe_var 7 rfl rfl (.inl rfl)))))) (xw_or1 (xt_not (xt_val (xe_call (ok_law_is_at T) (hr.mono (by decide)) (xa_cons (xe_callK (ok_seen_at_k1_marking T) (hr.mono (by decide)) (xa_one (xe_var 2 rfl rfl (.inl rfl))) (xk_one (xe_var 8 rfl rfl (.inl rfl))) rfl rfl) (xa_one (xe_var 9 rfl rfl (.inl rfl)))))))))) id (by exact (y_ret (Γ := [.fz (tyZ K) y, .st, .fz (tyEi (tyO (He.ga K "Table") ns_Table (Row.cons (tyD tyI) (Row.one tyI))) (tyO (He.ga K "Machine") ns_Machine (Row.cons tyS (Row.cons tyI (Row.cons (tyP (tyP (tyT (Row.cons tyI (Row.one tyI))))) (Row.cons tyI (Row.cons tyI (Row.cons tyI (Row.one (tyD tyI))))))))) g_Src) s5.2, .fz (tyL (tyT (Row.cons tyS (Row.one tyI)))) s5.1, .fz (tyL (tyT (Row.cons tyI (Row.one tyS)))) parts_7, .fz tyS text_9, .fz (tyL (tyT (Row.cons tyI (Row.one tyS)))) s13, .fz (tyO (He.ga K "Marking") ns_Marking (Row.cons (tyP (tyT (Row.cons tyI (Row.cons tyS (Row.one (tyP tyS)))))) (Row.one tyI))) marking_16, .fz (tyO (He.ga K "Marking") ns_Marking (Row.cons (tyP (tyT (Row.cons tyI (Row.cons tyS (Row.one (tyP tyS)))))) (Row.one tyI))) changed_19, .fz (tyN tyS) due_21, .fz tyI x23, .no, .no]) xe_bl id)) (by exact (y_join (ΓJ := fun s22 : Unit => [.fz (tyZ K) y, .st, .fz (tyEi (tyO (He.ga K "Table") ns_Table (Row.cons (tyD tyI) (Row.one tyI))) (tyO (He.ga K "Machine") ns_Machine (Row.cons tyS (Row.cons tyI (Row.cons (tyP (tyP (tyT (Row.cons tyI (Row.one tyI))))) (Row.cons tyI (Row.cons tyI (Row.cons tyI (Row.one (tyD tyI))))))))) g_Src) s5.2, .fz (tyL (tyT (Row.cons tyS (Row.one tyI)))) s5.1, .fz (tyL (tyT (Row.cons tyI (Row.one tyS)))) parts_7, .fz tyS text_9, .fz (tyL (tyT (Row.cons tyI (Row.one tyS)))) s13, .fz (tyO (He.ga K "Marking") ns_Marking (Row.cons (tyP (tyT (Row.cons tyI (Row.cons tyS (Row.one (tyP tyS)))))) (Row.one tyI))) marking_16, .fz (tyO (He.ga K "Marking") ns_Marking (Row.cons (tyP (tyT (Row.cons tyI (Row.cons tyS (Row.one (tyP tyS)))))) (Row.one tyI))) changed_19, .fz (tyN tyS) due_21, .no, .no, .no]) () (Wk.cv (.same (.same (.same (.same (.same (.same (.same (.same (.same (.same (.no (.same (.same .nil)))))))))))))) rfl id)))) (fun s22 => by exact (y_ret (Γ := [.fz (tyZ K) y, .st, .fz (tyEi (tyO (He.ga K "Table") ns_Table (Row.cons (tyD tyI) (Row.one tyI))) (tyO (He.ga K "Machine") ns_Machine (Row.cons tyS (Row.cons tyI (Row.cons (tyP (tyP (tyT (Row.cons tyI (Row.one tyI))))) (Row.cons tyI (Row.cons tyI (Row.cons tyI (Row.one (tyD tyI))))))))) g_Src) s5.2, .fz (tyL (tyT (Row.cons tyS (Row.one tyI)))) s5.1, .fz (tyL (tyT (Row.cons tyI (Row.one tyS)))) parts_7, .fz tyS text_9, .fz (tyL (tyT (Row.cons tyI (Row.one tyS)))) s13, .fz (tyO (He.ga K "Marking") ns_Marking (Row.cons (tyP (tyT (Row.cons tyI (Row.cons tyS (Row.one (tyP tyS)))))) (Row.one tyI))) marking_16, .fz (tyO (He.ga K "Marking") ns_Marking (Row.cons (tyP (tyT (Row.cons tyI (Row.cons tyS (Row.one (tyP tyS)))))) (Row.one tyI))) changed_19, .fz (tyN tyS) due_21, .no, .no, .no]) xe_bl id))))))))))))))))))))) (fun _ _ h => h) (fun _ _ h => h) (fun _ _ h => h) (fun _ _ _ h => h))))
theorem ok_law_body (T : Txt K mg) : Cle P w K mg base "_law_body" 6 (spP (Row.one (tyZ K)) tyB (w_law_body)) :=
  let ⟨_, F⟩ := T.f_law_body
  ⟨_, _, _, fo_law_body T F, T.g_law_body, F.kp, F.bindsN (fun _ _ _ _ _ _ us hl => match us, hl with | [_], _ => rfl)⟩
/-! law -/
theorem sc_law : FnScope ["script"] ["script"] (defScope s_law) := ⟨rfl, rfl, rfl, by decide +kernel, rfl, by decide +kernel, by decide +kernel⟩
def w_law (y : (List Int)) (k : Bool → Prop) : Prop :=
  w_law_body y (fun r1 => k r1)
theorem fo_law {fd : FuncData} (T : Txt K mg) (F : FunD K "law" "law" (defArgs s_law) (defBody s_law) (defScope s_law) [] [] (He.fAd K ("law", none)) fd) : FnOk P w K mg base CX0 7 (He.fAd K ("law", none)) fd ["script"] (spP (Row.one (tyZ K)) tyB (w_law)) :=
  fn_P (Γ0 := fun y => [.fz (tyZ K) y]) (kn := fun _ => False) F sc_law rfl (Nat.le_of_ble_eq_true rfl) rsl_one (fun _ => rfl) (fun _ _ h => h.elim) (fun cdv A outer s H E hr y k => (xb_tryThru (y_ret (Γ := [.fz (tyZ K) y]) (xe_call (ok_law_body T) (hr.mono (by decide)) (xa_one (xe_var 0 rfl rfl (.inl rfl)))) id) rfl))
theorem ok_law (T : Txt K mg) : Cle P w K mg base "law" 7 (spP (Row.one (tyZ K)) tyB (w_law)) :=
  let ⟨_, F⟩ := T.f_law
  ⟨_, _, _, fo_law T F, T.g_law, F.kp, F.bindsN (fun _ _ _ _ _ _ us hl => match us, hl with | [_], _ => rfl)⟩
end
/-! ### what the law's own parts draw -/
theorem draw_by {y : Int} {k : Int → Prop} (hl : y.natAbs < 2 ^ 200) (hk : ∀ r, 0 ≤ r → r < max y 1 → k r) : w_law_draw y k := ⟨Nat.lt_of_le_of_lt (lg_le hl) (by decide), hk⟩
theorem atI_lt {α : Type} {xs : List α} {i : Int} (h0 : 0 ≤ i) (h1 : i < (xs.length : Int)) : ∃ y, xs[i.toNat]? = some y ∧ atI xs i = some y := by
  have hl : i.toNat < xs.length := by omega
  refine ⟨xs[i.toNat], by simp [hl], ?_⟩
  have e : i = ((i.toNat : Nat) : Int) := by omega
  have q : atI xs ((i.toNat : Nat) : Int) = some xs[i.toNat] := atI_nat (by simp [hl])
  rw [← e] at q
  exact q
theorem sl_eq : sizeLine = 16777216 := by decide
theorem strlen_app (a b : Str) : (a ++ b).length = a.length + b.length := by
  show (a.cps ++ b.cps).size = a.cps.size + b.cps.size
  exact Array.size_append
theorem cutS_len (s : Str) (lo hi : Option Int) : (cutS s lo hi).length ≤ s.length := by
  show (cutS s lo hi).cps.size ≤ s.cps.size
  unfold cutS
  simp
  try omega
/-- a list made of a walk, without tests -/
theorem WLc_by {α β : Type} {xs : List α} {we : α → (β → Prop) → Prop} {wk : List β → Prop} (hl : xs.length < sizeLine) (I : Nat → List β → Prop) (h0 : I 0 []) (h1 : ∀ i x acc, xs[i]? = some x → I i acc → we x fun y => I (i + 1) (acc ++ [y])) (h2 : ∀ acc, I xs.length acc → wk acc) : WLc xs (fun _ kk => kk true) we wk :=
  ⟨hl, I, h0, fun i x acc hx hI => (if_pos rfl).mpr (h1 i x acc hx hI), h2⟩

theorem p_law_wide {k : Int → Prop} (h : ∀ r, 0 ≤ r → r < 10 ^ 40 → k r) : w_law_wide () k := by
  unfold w_law_wide
  simp only [Bnd]
  refine ⟨by decide, WFor_by (fun i s => 0 ≤ s ∧ s < 10 ^ (9 * i)) (by decide) (fun i x s hx ⟨h0, h1⟩ => ?_) (fun s ⟨h0, _⟩ => ?_)⟩
  · have hi := (rng_at hx).1
    have hi : i < 5 := hi
    have hB : ∀ i, i < 5 → (10 : Int) ^ (9 * i) ≤ 10 ^ 36 := by decide
    have hb := hB i hi
    refine ⟨cmul_of 200 40 (by omega) (by decide) (by decide), draw_by (by decide) fun r r0 r1 => ?_⟩
    have e : (10 : Int) ^ (9 * (i + 1)) = 10 ^ (9 * i) * 10 ^ 9 := by rw [show 9 * (i + 1) = 9 * i + 9 by omega, Int.pow_add]
    show 0 ≤ s * 1000000000 + r ∧ s * 1000000000 + r < 10 ^ (9 * (i + 1))
    rw [e]
    omega
  · refine draw_by (by decide) fun r r0 r1 => ?_
    refine ⟨by omega, WFor_by (fun i s => s = 10 ^ i) rfl (fun i x s hx hs => ?_) (fun s' hs => ?_)⟩
    · have hi := (rng_at hx).1
      have hB : ∀ i, i < 41 → ((10 : Int) ^ i).natAbs < 2 ^ 200 := by decide
      refine ⟨cmul_of 200 40 (by rw [hs]; exact hB i (by omega)) (by decide) (by decide), ?_⟩
      show s * 10 = 10 ^ (i + 1)
      rw [hs, Int.pow_succ]
    · rw [rng_length] at hs
      have hB : ∀ i, i < 41 → 0 < (10 : Int) ^ i ∧ (10 : Int) ^ i ≤ 10 ^ 40 := by decide
      have hb := hB r.toNat (by omega)
      rw [← hs] at hb
      refine ⟨hb.1, h _ (Int.emod_nonneg _ (by omega)) (Int.lt_of_lt_of_le (Int.emod_lt_of_pos _ hb.1) hb.2)⟩

theorem p_law_text {y : Int} {k : Str → Prop} (h0 : 0 ≤ y) (h1 : y ≤ 1000) (h : ∀ t : Str, (t.length : Int) ≤ y → k t) : w_law_text y k := by
  unfold w_law_text
  simp only [Bnd]
  refine draw_by (by decide) fun r1 a0 a1 => draw_by (by decide) fun r3 b0 b1 => ?_
  refine Jn_by (fun s6 : Str => 0 < s6.length ∧ s6.length ≤ 100) (fun s6 hs6 => ?_) (fun j hj => ?_)
  · refine Jn_by (fun s7 : Str × Int => (0 < s7.1.length ∧ s7.1.length ≤ 100) ∧ 0 ≤ s7.2 ∧ s7.2 ≤ 2000) (fun s7 ⟨⟨c0, c1⟩, d0, d1⟩ => ?_) (fun j hj => ?_)
    · refine ⟨by omega, WFor_by (fun i s => s.length = i) rfl (fun i x s hx hs => ?_) (fun s hs => ?_)⟩
      · have hi := (rng_at hx).1
        refine ⟨by rw [sl_eq]; omega, draw_by (by omega) fun r r0 r1 => ⟨by rw [sl_eq]; omega, ?_⟩⟩
        have hl : s7.1.cps.toList.length = s7.1.length := by simp [Str.length]
        obtain ⟨c, _, hc⟩ := atI_lt (xs := s7.1.cps.toList) r0 (by rw [hl]; omega)
        refine ⟨c, hc, ?_, ?_⟩
        · show s.length + 1 ≤ sizeLine
          rw [sl_eq]; omega
        · show (s ++ (⟨#[c]⟩ : Str)).length = i + 1
          rw [strlen_app, hs]
          rfl
      · rw [rng_length] at hs
        exact h s (by omega)
    · split
      · exact draw_by (by omega) fun r r0 r1 => hj _ ⟨(by decide : 0 < (" !\"#$&'()*+,-./0123456789:;<=>?@ABCDEFGHIJKLMNOPQRSTUVWXYZ[\\]^_`abcdefghijklmnopqrstuvwxyz{|}~" : Str).length ∧ (" !\"#$&'()*+,-./0123456789:;<=>?@ABCDEFGHIJKLMNOPQRSTUVWXYZ[\\]^_`abcdefghijklmnopqrstuvwxyz{|}~" : Str).length ≤ 100), r0, by show r ≤ 2000; omega⟩
      · exact hj _ ⟨hs6, b0, by omega⟩
  · split
    · exact hj _ (by decide)
    · exact hj _ (by decide)

theorem p_law_texts {y : Int × Int} {k : List Str → Prop} (h0 : 1 ≤ y.1) (h1 : y.1 ≤ 1000) (g0 : 1 ≤ y.2) (g1 : y.2 ≤ 1000) (h : ∀ ts : List Str, ts ≠ [] → (ts.length : Int) ≤ y.1 → ts.Nodup → (∀ t ∈ ts, (t.length : Int) ≤ 3000) → k ts) : w_law_texts y k := by
  unfold w_law_texts
  simp only [Bnd]
  refine draw_by (by decide) fun r1 a0 a1 => p_law_text (by omega) (by omega) fun base hb => ⟨by rw [sl_eq]; omega, draw_by (by omega) fun r5 b0 b1 => ?_⟩
  refine ⟨by omega, WFor_by (fun i s => (1 ≤ i → s ≠ []) ∧ s.length ≤ i ∧ s.Nodup ∧ ∀ t ∈ s, (t.length : Int) ≤ 3000) ⟨fun h => absurd h (by decide), Nat.le_refl _, .nil, (fun t h => nomatch h)⟩ (fun i x s hx ⟨i0, i1, i2, i3⟩ => ?_) (fun s ⟨i0, i1, i2, i3⟩ => ?_)⟩
  · have hi := (rng_at hx).1
    refine Jn_by (fun t : Str => (t.length : Int) ≤ 3000) (fun t ht => ?_) (fun j hj => ?_)
    · refine Jn_by (fun s' => s' ≠ [] ∧ s'.length ≤ i + 1 ∧ s'.Nodup ∧ ∀ t ∈ s', (t.length : Int) ≤ 3000) (fun s' ⟨e0, e1, e2, e3⟩ => ⟨fun _ => e0, e1, e2, e3⟩) (fun j hj => ?_)
      by_cases hm : t ∈ s
      · rw [if_neg (by rw [decide_eq_true hm]; decide)]
        exact hj s ⟨(fun e => by rw [e] at hm; cases hm), Nat.le_succ_of_le i1, i2, i3⟩
      · rw [if_pos (by rw [decide_eq_false hm]; rfl)]
        refine ⟨by rw [sl_eq]; omega, hj _ ⟨by simp, by rw [List.length_append]; show s.length + 1 ≤ _; omega, ?_, fun u hu => ?_⟩⟩
        · rw [List.nodup_append]
          exact ⟨i2, by simp, fun a ha b hb e => hm (by rw [List.mem_singleton] at hb; rw [← hb, ← e]; exact ha)⟩
        · rcases List.mem_append.mp hu with hu | hu
          · exact i3 u hu
          · rw [List.mem_singleton] at hu; rw [hu]; exact ht
    · split
      · have c1 := cutS_len base none (some r5)
        have c2 := cutS_len base (some (r5 + 1)) none
        refine ⟨by rw [sl_eq]; omega, draw_by (by decide) fun r r0 r1 => ⟨by decide, ?_⟩⟩
        obtain ⟨c, _, hc⟩ := atI_lt (xs := (" !\"#$&'()*+,-./0123456789:;<=>?@ABCDEFGHIJKLMNOPQRSTUVWXYZ[\\]^_`abcdefghijklmnopqrstuvwxyz{|}~" : Str).cps.toList) r0 (Int.lt_of_lt_of_le r1 (by decide))
        have l1 : (cutS base none (some r5) ++ (⟨#[c]⟩ : Str)).length = (cutS base none (some r5)).length + 1 := by rw [strlen_app]; rfl
        refine ⟨c, hc, ?_, by rw [sl_eq]; omega, ?_, ?_⟩
        · show (cutS base none (some r5)).length + 1 ≤ sizeLine
          rw [sl_eq]; omega
        · rw [l1, sl_eq]; omega
        · refine hj _ ?_
          rw [strlen_app, l1]
          omega
      · exact p_law_text (by omega) (by omega) fun t ht => hj t (by omega)
  · rw [rng_length] at i0 i1
    exact h s (i0 (by omega)) (by omega) i2 i3

theorem p_law_weight {y : Int} {k : Int → Prop} (h : ∀ r, 1 ≤ r → r ≤ 10 ^ 40 → k r) : w_law_weight y k := by
  unfold w_law_weight
  split
  · exact draw_by (by decide) fun r r0 r1 => h _ (by omega) (by omega)
  · split
    · exact draw_by (by decide) fun r r0 r1 => h _ (by omega) (by omega)
    · split
      · exact draw_by (by decide) fun r r0 r1 => ⟨cmul_of 8 8 (by decide) (by omega) (by decide), h _ (by omega) (by omega)⟩
      · exact p_law_wide fun r r0 r1 => h _ (by omega) (by omega)

theorem gcd_step (m n : Nat) : Nat.gcd n (m % n) = Nat.gcd m n := by
  rw [Nat.gcd_comm m n, Nat.gcd_rec n m, Nat.gcd_comm]
theorem p_gcd {a b : Nat} {k : Int → Prop} (h : k (Nat.gcd a b : Int)) : w_greatest_divisor ((a : Int), (b : Int)) k := by
  unfold w_greatest_divisor
  refine Jn_by (fun s : Int × Int => s.1 = (Nat.gcd a b : Int)) (fun s hs => by rw [hs]; exact h) (fun j hj => ?_)
  refine ⟨fun s => ∃ m n : Nat, s = ((m : Int), (n : Int)) ∧ Nat.gcd m n = Nat.gcd a b, fun s => s.2.toNat, ⟨a, b, rfl, rfl⟩, ?_⟩
  rintro s ⟨m, n, rfl, hg⟩
  by_cases hn : (0 : Int) < (n : Int)
  · show if decide ((0 : Int) < (n : Int)) = true then _ else _
    rw [if_pos (decide_eq_true hn)]
    refine ⟨hn, ⟨n, m % n, ?_, by rw [gcd_step, hg]⟩, ?_⟩
    · show ((n : Int), (m : Int) % (n : Int)) = _
      rw [Int.natCast_emod]
    · show ((m : Int) % (n : Int)).toNat < ((n : Int)).toNat
      have := Int.emod_lt_of_pos (m : Int) hn
      have := Int.emod_nonneg (m : Int) (show (n : Int) ≠ 0 by omega)
      omega
  · show if decide ((0 : Int) < (n : Int)) = true then _ else _
    rw [if_neg (by rw [decide_eq_false hn]; decide)]
    refine hj _ ?_
    have : n = 0 := by omega
    subst this
    rw [Nat.gcd_zero_right] at hg
    show (m : Int) = _
    rw [hg]
theorem log2_mono {a b : Nat} (h : a ≤ b) : a.log2 ≤ b.log2 := by
  by_cases h0 : a = 0
  · subst h0; simp
  · exact (Nat.le_log2 (by omega)).mpr (Nat.le_trans (Nat.log2_self_le h0) h)

/-- a share in its least terms -/
def shG (o u : Int) : Int := (Nat.gcd o.natAbs u.natAbs : Int)
def shr (o u : Int) : Int × Int := (o / shG o u, u / shG o u)
theorem shG_pos {o u : Int} (hu : 0 < u) : 0 < shG o u := by
  unfold shG
  have : 0 < Nat.gcd o.natAbs u.natAbs := Nat.gcd_pos_of_pos_right _ (by omega)
  omega
theorem shr_over {o u : Int} : (shr o u).1 * shG o u = o := Int.ediv_mul_cancel (by unfold shG; exact Int.ofNat_dvd_left.mpr (Nat.gcd_dvd_left _ _))
theorem shr_under {o u : Int} : (shr o u).2 * shG o u = u := Int.ediv_mul_cancel (by unfold shG; exact Int.ofNat_dvd_left.mpr (Nat.gcd_dvd_right _ _))
theorem natAbs_div_le (a b : Int) : (a / b).natAbs ≤ a.natAbs := Int.natAbs_ediv_le_natAbs a b
theorem pos_of_mul {a b : Int} (hb : 0 < b) (h : 0 < a * b) : 0 < a := by
  apply Classical.byContradiction
  intro hn
  have := Int.mul_nonpos_of_nonpos_of_nonneg (a := a) (b := b) (by omega) (by omega)
  omega
theorem shr_pos {o u : Int} (hu : 0 < u) : 0 < (shr o u).2 := pos_of_mul (shG_pos (o := o) hu) (by rw [shr_under]; exact hu)
theorem shr_le1 (o u : Int) : (shr o u).1.natAbs ≤ o.natAbs := natAbs_div_le _ _
theorem shr_le2 {o u : Int} (hu : 0 < u) : (shr o u).2 ≤ u := by
  have h1 := natAbs_div_le u (shG o u)
  have h2 := shr_pos (o := o) hu
  have : (shr o u).2.natAbs ≤ u.natAbs := h1
  omega
theorem shr_cop {o u : Int} (hu : 0 < u) : Nat.Coprime (shr o u).1.natAbs (shr o u).2.natAbs := by
  have h := Nat.gcd_div_gcd_div_gcd_of_pos_right (n := o.natAbs) (m := u.natAbs) (by omega)
  have hG : 0 < Nat.gcd o.natAbs u.natAbs := Nat.gcd_pos_of_pos_right _ (by omega)
  have e1 : (shr o u).1.natAbs = o.natAbs / Nat.gcd o.natAbs u.natAbs := by
    have q := congrArg Int.natAbs (shr_over (o := o) (u := u))
    rw [Int.natAbs_mul] at q
    exact (Nat.div_eq_of_eq_mul_left hG q.symm).symm
  have e2 : (shr o u).2.natAbs = u.natAbs / Nat.gcd o.natAbs u.natAbs := by
    have q := congrArg Int.natAbs (shr_under (o := o) (u := u))
    rw [Int.natAbs_mul] at q
    exact (Nat.div_eq_of_eq_mul_left hG q.symm).symm
  rw [e1, e2]
  exact h
/-- equal numbers are the same share -/
theorem shr_eq {o1 u1 o2 u2 : Int} (h1 : 0 < u1) (h2 : 0 < u2) (h : o1 * u2 = o2 * u1) : shr o1 u1 = shr o2 u2 := by
  have a1 := shr_over (o := o1) (u := u1)
  have b1 := shr_under (o := o1) (u := u1)
  have a2 := shr_over (o := o2) (u := u2)
  have b2 := shr_under (o := o2) (u := u2)
  have g1 := shG_pos (o := o1) h1
  have g2 := shG_pos (o := o2) h2
  have c1 := shr_cop (o := o1) h1
  have c2 := shr_cop (o := o2) h2
  have p1 := shr_pos (o := o1) h1
  have p2 := shr_pos (o := o2) h2
  have hc : (shr o1 u1).1 * (shr o2 u2).2 = (shr o2 u2).1 * (shr o1 u1).2 := by
    refine Int.eq_of_mul_eq_mul_right (show shG o1 u1 * shG o2 u2 ≠ 0 from Int.ne_of_gt (Int.mul_pos g1 g2)) ?_
    have e1 : (shr o1 u1).1 * (shr o2 u2).2 * (shG o1 u1 * shG o2 u2) = ((shr o1 u1).1 * shG o1 u1) * ((shr o2 u2).2 * shG o2 u2) := by grind
    have e2 : (shr o2 u2).1 * (shr o1 u1).2 * (shG o1 u1 * shG o2 u2) = ((shr o2 u2).1 * shG o2 u2) * ((shr o1 u1).2 * shG o1 u1) := by grind
    rw [e1, e2, a1, a2, b1, b2, h]
  revert c1 c2 p1 p2 hc
  generalize shr o1 u1 = s
  generalize shr o2 u2 = t
  intro c1 c2 p1 p2 hc
  have hn : s.1.natAbs * t.2.natAbs = t.1.natAbs * s.2.natAbs := by rw [← Int.natAbs_mul, ← Int.natAbs_mul, hc]
  have d1 : s.2.natAbs ∣ t.2.natAbs := c1.symm.dvd_of_dvd_mul_left ⟨t.1.natAbs, by rw [hn, Nat.mul_comm]⟩
  have d2 : t.2.natAbs ∣ s.2.natAbs := c2.symm.dvd_of_dvd_mul_left ⟨s.1.natAbs, by rw [← hn, Nat.mul_comm]⟩
  have e2 : s.2 = t.2 := by
    have := Nat.dvd_antisymm d1 d2
    omega
  have e1 : s.1 = t.1 := by
    rw [e2] at hc
    exact Int.eq_of_mul_eq_mul_right (by omega) hc
  exact Prod.ext e1 e2
theorem shr_cross {o1 u1 o2 u2 : Int} (h1 : 0 < u1) (h2 : 0 < u2) : (shr o1 u1).1 * (shr o2 u2).2 * (shG o1 u1 * shG o2 u2) = o1 * u2 := by
  have a1 := shr_over (o := o1) (u := u1)
  have b2 := shr_under (o := o2) (u := u2)
  have e1 : (shr o1 u1).1 * (shr o2 u2).2 * (shG o1 u1 * shG o2 u2) = ((shr o1 u1).1 * shG o1 u1) * ((shr o2 u2).2 * shG o2 u2) := by grind
  rw [e1, a1, b2]
theorem shr_lt {o1 u1 o2 u2 : Int} (h1 : 0 < u1) (h2 : 0 < u2) : (shr o1 u1).1 * (shr o2 u2).2 < (shr o2 u2).1 * (shr o1 u1).2 ↔ o1 * u2 < o2 * u1 := by
  have e1 := shr_cross (o1 := o1) (o2 := o2) h1 h2
  have e2 := shr_cross (o1 := o2) (o2 := o1) h2 h1
  have hg : 0 < shG o1 u1 * shG o2 u2 := Int.mul_pos (shG_pos h1) (shG_pos h2)
  rw [Int.mul_comm (shG o2 u2)] at e2
  rw [← e1, ← e2]
  exact ⟨fun h => Int.mul_lt_mul_of_pos_right h hg, fun h => Int.lt_of_mul_lt_mul_right h (Int.le_of_lt hg)⟩
theorem shr_addv {o1 u1 o2 u2 : Int} (h1 : 0 < u1) (h2 : 0 < u2) : shr ((shr o1 u1).1 * (shr o2 u2).2 + (shr o2 u2).1 * (shr o1 u1).2) ((shr o1 u1).2 * (shr o2 u2).2) = shr (o1 * u2 + o2 * u1) (u1 * u2) := by
  refine shr_eq (Int.mul_pos (shr_pos h1) (shr_pos h2)) (Int.mul_pos h1 h2) ?_
  have a1 := shr_over (o := o1) (u := u1)
  have b1 := shr_under (o := o1) (u := u1)
  have a2 := shr_over (o := o2) (u := u2)
  have b2 := shr_under (o := o2) (u := u2)
  revert a1 b1 a2 b2
  generalize shr o1 u1 = s
  generalize shr o2 u2 = t
  generalize shG o1 u1 = g
  generalize shG o2 u2 = g'
  intro a1 b1 a2 b2
  subst a1 b1 a2 b2
  grind
theorem shr_same {a b u : Int} (hu : 0 < u) : shr (a * u + b * u) (u * u) = shr (a + b) u := shr_eq (Int.mul_pos hu hu) hu (by grind)
theorem log_abs {n : Int} {B : Nat} (h : n.natAbs < 2 ^ B) (hB : B < 9000) : n.natAbs.log2 < 9000 := Nat.lt_of_le_of_lt (lg_le (k := B) h) hB
theorem abs_mul_lt {a b : Int} {c d : Nat} (h1 : a.natAbs < 2 ^ c) (h2 : b.natAbs < 2 ^ d) : (a * b).natAbs < 2 ^ (c + d) := by
  rw [Int.natAbs_mul, Nat.pow_add]
  exact Nat.mul_lt_mul'' h1 h2
theorem abs_add_lt {a b : Int} {c : Nat} (h1 : a.natAbs < 2 ^ c) (h2 : b.natAbs < 2 ^ c) : (a + b).natAbs < 2 ^ (c + 1) := by
  rw [Nat.pow_succ]
  omega
theorem perm_sum {a b : List Int} (h : a.Perm b) : a.sum = b.sum := by
  induction h with
  | nil => rfl
  | cons x _ ih => rw [List.sum_cons, List.sum_cons, ih]
  | swap x y l => rw [List.sum_cons, List.sum_cons, List.sum_cons, List.sum_cons]; omega
  | trans _ _ h1 h2 => rw [h1, h2]
/-- numbers of a share of so many binary places -/
structure ShB (B : Nat) (o u : Int) : Prop where
  ob : o.natAbs < 2 ^ B
  ub : u.natAbs < 2 ^ B
  p : 0 < u
theorem ShB.up {B C : Nat} {o u : Int} (h : ShB B o u) (hB : B ≤ C) : ShB C o u :=
  have hp : 2 ^ B ≤ 2 ^ C := Nat.pow_le_pow_right (by decide) hB
  ⟨Nat.lt_of_lt_of_le h.ob hp, Nat.lt_of_lt_of_le h.ub hp, h.p⟩
theorem ShB.o2 {B : Nat} {o u : Int} (h : ShB B o u) : (shr o u).1.natAbs < 2 ^ B := Nat.lt_of_le_of_lt (natAbs_div_le _ _) h.ob
theorem ShB.u2 {B : Nat} {o u : Int} (h : ShB B o u) : (shr o u).2.natAbs < 2 ^ B := Nat.lt_of_le_of_lt (natAbs_div_le _ _) h.ub
theorem p_share {o u : Int} {k : Int × Int → Prop} (hu : 0 < u) (hl : u.natAbs.log2 < 9000) (h : k (shr o u)) : w_Share___init__ (o, u) k := by
  unfold w_Share___init__
  simp only [Bnd]
  rw [if_neg (by show ¬ (decide (u = 0) = true); rw [decide_eq_false (by omega)]; decide)]
  refine p_gcd ?_
  have hg := shG_pos (o := o) hu
  have hle : (shG o u).natAbs.log2 < 9000 := Nat.lt_of_le_of_lt (log2_mono (by
    unfold shG
    rw [Int.natAbs_natCast]
    exact Nat.gcd_le_right _ (by omega))) hl
  refine Jn_by (fun s : Int => s = shG o u) (fun s hs => ?_) (fun j hj => ?_)
  · subst hs
    exact ⟨⟨hg, hle⟩, ⟨hg, hle⟩, h⟩
  · rw [if_neg (by show ¬ (decide (u < 0) = true); rw [decide_eq_false (by omega)]; decide)]
    exact hj _ rfl

theorem bits_lt {x : Int} (h : x.natAbs.log2 < 9000) : (Builtin.Int.intBits x : Nat) ≤ 9000 := by
  unfold Builtin.Int.intBits
  split <;> omega
theorem lt_bits (x : Int) : x.natAbs < 2 ^ (Builtin.Int.intBits x) := by
  unfold Builtin.Int.intBits
  split
  · rename_i h
    have : x = 0 := by simpa using h
    subst this; decide
  · exact Nat.lt_log2_self
theorem pow_half {p q i B : Nat} (h : p * 2 ^ i < 2 ^ B) (hq : 2 * q ≤ p) : q * 2 ^ (i + 1) < 2 ^ B := by
  rw [Nat.pow_succ]
  calc q * (2 ^ i * 2) = (2 * q) * 2 ^ i := by rw [Nat.mul_comm (2 ^ i) 2, ← Nat.mul_assoc, Nat.mul_comm q 2]
    _ ≤ p * 2 ^ i := Nat.mul_le_mul_right _ hq
    _ < 2 ^ B := h
theorem mod_half {m n : Nat} (h0 : 0 < n) (h : n < m) : 2 * (n * (m % n)) ≤ m * n := by
  have h1 := Nat.mod_lt m h0
  have h2 := Nat.div_add_mod m n
  have h3 : 1 ≤ m / n := (Nat.one_le_div_iff h0).mpr (by omega)
  have h4 : n * 1 ≤ n * (m / n) := Nat.mul_le_mul_left _ h3
  have h5 : 2 * (m % n) ≤ m := by omega
  calc 2 * (n * (m % n)) = n * (2 * (m % n)) := by rw [← Nat.mul_assoc, Nat.mul_comm 2 n, Nat.mul_assoc]
    _ ≤ n * m := Nat.mul_le_mul_left _ h5
    _ = m * n := Nat.mul_comm _ _
theorem p_law_gcd {a b : Nat} {k : Int → Prop} (ha : a.log2 < 9000) (hb : b.log2 < 9000) (h : k (Nat.gcd a b : Int)) : w_law_gcd ((a : Int), (b : Int)) k := by
  unfold w_law_gcd
  have la : (Builtin.Int.intBits (a : Int) : Nat) ≤ 9000 := bits_lt (by rw [Int.natAbs_natCast]; exact ha)
  have lb : (Builtin.Int.intBits (b : Int) : Nat) ≤ 9000 := bits_lt (by rw [Int.natAbs_natCast]; exact hb)
  have ua : a < 2 ^ (Builtin.Int.intBits (a : Int)) := by have := lt_bits (a : Int); rwa [Int.natAbs_natCast] at this
  have ub : b < 2 ^ (Builtin.Int.intBits (b : Int)) := by have := lt_bits (b : Int); rwa [Int.natAbs_natCast] at this
  simp only
  generalize Builtin.Int.intBits (a : Int) = A at *
  generalize Builtin.Int.intBits (b : Int) = B at *
  refine ⟨cmul_of 2 20 (by decide) (by omega) (by decide), by omega, WFor_by (fun i s => ∃ m n : Nat, s = ((m : Int), (n : Int)) ∧ Nat.gcd m n = Nat.gcd a b ∧ (1 ≤ i → n < m) ∧ m * n * 2 ^ (i - 1) < 2 ^ (A + B)) ?_ (fun i x s hx hI => ?_) (fun s hI => ?_)⟩
  · refine ⟨a, b, rfl, rfl, fun h => absurd h (by decide), ?_⟩
    rw [show (0 - 1) = 0 from rfl, Nat.pow_zero, Nat.mul_one, Nat.pow_add]
    exact Nat.mul_lt_mul'' ua ub
  · obtain ⟨m, n, rfl, hg, hi, hp⟩ := hI
    by_cases hn : n = 0
    · subst hn
      show if decide (((0 : Nat) : Int) = 0) = true then k (m : Int) else _
      rw [if_pos (by decide)]
      rw [Nat.gcd_zero_right] at hg
      rw [hg]; exact h
    · show if decide ((n : Int) = 0) = true then k (m : Int) else _
      rw [if_neg (by rw [decide_eq_false (by omega)]; decide)]
      refine ⟨by show (0 : Int) < (n : Int); omega, n, m % n, ?_, by rw [gcd_step, hg], fun _ => Nat.mod_lt _ (by omega), ?_⟩
      · show ((n : Int), (m : Int) % (n : Int)) = _
        rw [Int.natCast_emod]
      · cases i with
        | zero =>
          rw [show (0 - 1) = 0 from rfl, Nat.pow_zero, Nat.mul_one] at hp
          rw [show (0 + 1 - 1) = 0 from rfl, Nat.pow_zero, Nat.mul_one]
          refine Nat.lt_of_le_of_lt ?_ hp
          rw [Nat.mul_comm m n]
          exact Nat.mul_le_mul_left _ (Nat.mod_le _ _)
        | succ i =>
          rw [show i + 1 - 1 = i by omega] at hp
          rw [show i + 1 + 1 - 1 = i + 1 by omega]
          exact pow_half hp (mod_half (by omega) (hi (by omega)))
  · obtain ⟨m, n, rfl, hg, hi, hp⟩ := hI
    rw [rng_length] at hi hp
    have e : (((2 : Int) * ((A : Int) + (B : Int))) + (4 : Int)).toNat = 2 * (A + B) + 4 := by omega
    rw [e] at hi hp
    have hnm := hi (by omega)
    have h0 : n = 0 := by
      apply Classical.byContradiction
      intro hn
      have h1 : 1 ≤ m * n := Nat.mul_pos (by omega) (by omega)
      have h2 : 2 ^ (A + B) ≤ 2 ^ (2 * (A + B) + 4 - 1) := Nat.pow_le_pow_right (by decide) (by omega)
      have h3 := Nat.mul_le_mul h1 h2
      omega
    subst h0
    rw [Nat.gcd_zero_right] at hg
    show k (m : Int)
    rw [hg]; exact h

theorem look_none {α : Type} {d : List (Str × α)} {t : Str} (h : t ∉ d.map (·.1)) : look d t = none := by
  unfold look
  rw [List.find?_eq_none.mpr fun kv hkv e => h (List.mem_map.mpr ⟨kv, hkv, of_decide_eq_true e⟩)]
  rfl
theorem put_new {α : Type} {d : List (Str × α)} {t : Str} {v : α} (h : t ∉ d.map (·.1)) : put d t v = d ++ [(t, v)] := by
  unfold put
  rw [if_neg]
  rw [List.any_eq_true]
  rintro ⟨kv, hkv, e⟩
  exact h (List.mem_map.mpr ⟨kv, hkv, of_decide_eq_true e⟩)
theorem nodup_at {α : Type} {xs : List α} {i : Nat} {x : α} (h : xs.Nodup) (hx : xs[i]? = some x) : x ∉ xs.take i := by
  intro hm
  obtain ⟨j, hj⟩ := List.mem_iff_getElem?.mp hm
  have hlt : j < i := by
    have := (List.getElem?_eq_some_iff.mp hj).1
    rw [List.length_take] at this
    omega
  rw [List.getElem?_take_of_lt hlt] at hj
  obtain ⟨h1, e1⟩ := List.getElem?_eq_some_iff.mp hj
  obtain ⟨h2, e2⟩ := List.getElem?_eq_some_iff.mp hx
  have := (List.getElem_inj (h₀ := h1) (h₁ := h2) h).mp (e1.trans e2.symm)
  omega
/-- a table of distinct texts -/
theorem p_table {ps : List (Str × Int)} {k : List (Str × Int) × Int → Prop} (hl : ps.length ≤ 1000000) (hn : (ps.map (·.1)).Nodup) (hw : ∀ p ∈ ps, 1 ≤ p.2) (h : k (ps, (ps.map (·.2)).sum)) : w_Table___init__ ps k := by
  unfold w_Table___init__ w_is_integer
  simp only [Bnd]
  refine WFor_by (fun i s => s = ps.take i) rfl (fun i x s hx hs => ?_) (fun s hs => ?_)
  · obtain ⟨p, hp, e⟩ := enumA_at hx
    subst e
    subst hs
    have hi : i < ps.length := (List.getElem?_eq_some_iff.mp hp).1
    have hm : p.1 ∉ (ps.take i).map (·.1) := by
      rw [List.map_take]
      exact nodup_at hn (by rw [List.getElem?_map, hp]; rfl)
    have h1 := hw p (List.mem_of_getElem? hp)
    show if ((!(true && !false)) || (decide (p.2 < 1) || (look (ps.take i) p.1).isSome)) = true then _ else _
    rw [look_none hm, decide_eq_false (by omega), if_neg (by decide)]
    refine ⟨by rw [List.length_take, sl_eq]; omega, ?_⟩
    show put (ps.take i) p.1 p.2 = ps.take (i + 1)
    rw [put_new hm, List.take_add_one, hp]
    rfl
  · rw [enumA_length, List.take_of_length_le (Nat.le_refl _)] at hs
    subst hs
    exact h
theorem mem_sum_pos : ∀ {ps : List (Str × Int)}, ps ≠ [] → (∀ p ∈ ps, 1 ≤ p.2) → 1 ≤ (ps.map (·.2)).sum
  | [], h, _ => absurd rfl h
  | p :: r, _, h => by
    rw [List.map_cons, List.sum_cons]
    have hp := h p List.mem_cons_self
    cases r with
    | nil => simp; omega
    | cons q t =>
      have := mem_sum_pos (ps := q :: t) (by simp) fun x hx => h x (List.mem_cons_of_mem _ hx)
      omega
theorem mem_sum_le {B : Int} : ∀ {ps : List (Str × Int)}, (∀ p ∈ ps, p.2 ≤ B) → (ps.map (·.2)).sum ≤ B * ps.length
  | [], _ => by simp
  | p :: r, h => by
    rw [List.map_cons, List.sum_cons, List.length_cons]
    have hp := h p List.mem_cons_self
    have := mem_sum_le (ps := r) fun x hx => h x (List.mem_cons_of_mem _ hx)
    rw [show ((r.length + 1 : Nat) : Int) = (r.length : Int) + 1 by omega, Int.mul_add, Int.mul_one]
    omega
theorem look_mem {α : Type} {d : List (Str × α)} {t : Str} {v : α} (h : look d t = some v) : (t, v) ∈ d := by
  unfold look at h
  rw [Option.map_eq_some_iff] at h
  obtain ⟨kv, h1, h2⟩ := h
  have h3 : kv.1 = t := of_decide_eq_true (List.find?_some (p := fun kv : Str × α => decide (kv.1 = t)) h1)
  have h4 := List.mem_of_find?_eq_some h1
  rw [← h2, ← h3]
  exact h4
/-- numbers of so many digits are no burden -/
theorem log_of {n : Int} (h0 : 0 ≤ n) (h : n < 2 ^ 200) : n.natAbs.log2 < 9000 := Nat.lt_of_le_of_lt (lg_le (k := 200) (by omega)) (by decide)
/-- pairs as the laws draw them -/
def GoodP (ps : List (Str × Int)) : Prop := ps ≠ [] ∧ ps.length ≤ 24 ∧ (ps.map (·.1)).Nodup ∧ (∀ p ∈ ps, 1 ≤ p.2 ∧ p.2 ≤ 10 ^ 40) ∧ ∀ p ∈ ps, (p.1.length : Int) ≤ 3000
theorem GoodP.tab {ps : List (Str × Int)} {k : List (Str × Int) × Int → Prop} (g : GoodP ps) (h : k (ps, (ps.map (·.2)).sum)) : w_Table___init__ ps k := p_table (by have := g.2.1; omega) g.2.2.1 (fun p hp => (g.2.2.2.1 p hp).1) h
theorem GoodP.pos {ps : List (Str × Int)} (g : GoodP ps) : 1 ≤ (ps.map (·.2)).sum := mem_sum_pos g.1 fun p hp => (g.2.2.2.1 p hp).1
theorem GoodP.lt {ps : List (Str × Int)} (g : GoodP ps) : (ps.map (·.2)).sum < 2 ^ 200 := by
  have h1 := mem_sum_le (B := 10 ^ 40) fun p hp => (g.2.2.2.1 p hp).2
  have h2 : (10 : Int) ^ 40 * ps.length ≤ 10 ^ 40 * 24 := Int.mul_le_mul_of_nonneg_left (by have := g.2.1; omega) (by decide)
  have h3 : (10 : Int) ^ 40 * 24 < 2 ^ 200 := by decide
  omega
theorem GoodP.of {ps : List (Str × Int)} (g : GoodP ps) (t : Str) : 0 ≤ (look ps t).getD 0 ∧ (look ps t).getD 0 ≤ 10 ^ 40 := by
  cases e : look ps t with
  | none => exact ⟨by decide, by decide⟩
  | some v =>
    have := g.2.2.2.1 _ (look_mem e)
    exact ⟨by show 0 ≤ v; have := this.1; omega, this.2⟩

theorem p_law_pairs {y : Int} {k : List (Str × Int) → Prop} (h1 : 1 ≤ y) (h2 : y ≤ 24) (h : ∀ ps, GoodP ps → (ps.length : Int) ≤ max y 2 → k ps) : w_law_pairs y k := by
  unfold w_law_pairs
  simp only [Bnd]
  refine draw_by (by omega) fun r1 a0 a1 => ?_
  refine Jn_by (fun s : Int => 1 ≤ s ∧ s ≤ max y 2) (fun s ⟨s0, s1⟩ => ?_) (fun j hj => draw_by (by decide) fun r3 b0 b1 => ?_)
  · refine draw_by (by decide) fun kind c0 c1 => p_law_texts (by exact s0) (by show s ≤ 1000; omega) (by show (1:Int) ≤ 10; decide) (by show (10:Int) ≤ 1000; decide) fun ts t0 t1 t2 t3 => ?_
    have t1 : (ts.length : Int) ≤ s := t1
    refine WLc_by (by rw [sl_eq]; omega) (fun i acc => acc.map (·.1) = ts.take i ∧ ∀ p ∈ acc, 1 ≤ p.2 ∧ p.2 ≤ 10 ^ 40) ⟨rfl, (fun p h => nomatch h)⟩ (fun i x acc hx ⟨i1, i2⟩ => ?_) (fun acc ⟨i1, i2⟩ => ?_)
    · refine p_law_weight fun w w0 w1 => ⟨?_, fun p hp => ?_⟩
      · rw [List.map_append, i1, List.take_add_one, hx]
        rfl
      · rcases List.mem_append.mp hp with hp | hp
        · exact i2 p hp
        · rw [List.mem_singleton] at hp
          rw [hp]
          exact ⟨w0, w1⟩
    · rw [List.take_of_length_le (Nat.le_refl _)] at i1
      have hl : acc.length = ts.length := by rw [← i1, List.length_map]
      refine h acc ⟨fun e => t0 (by rw [← i1, e]; rfl), by omega, by rw [i1]; exact t2, i2, fun p hp => t3 _ ?_⟩ (by omega)
      rw [← i1]
      exact List.mem_map.mpr ⟨p, hp, rfl⟩
  · split
    · exact draw_by (by omega) fun r d0 d1 => hj _ ⟨by omega, by omega⟩
    · exact hj _ ⟨by omega, by omega⟩

/-- a letter as a text -/
def IsSign (s : Str) : Prop := ∃ c, s = (⟨#[c]⟩ : Str)
theorem IsSign.len {s : Str} (h : IsSign s) : s.length = 1 := by obtain ⟨c, rfl⟩ := h; rfl
theorem str_app_toList (a b : Str) : (a ++ b).cps.toList = a.cps.toList ++ b.cps.toList := by
  show (a.cps ++ b.cps).toList = _
  rw [Array.toList_append]
theorem join_empty : ∀ ys : List Str, (Str.join ("" : Str) ys).cps.toList = ys.flatMap fun y => y.cps.toList
  | [] => rfl
  | [y] => by show y.cps.toList = _; simp
  | x :: y :: r => by
    show ((x ++ ("" : Str)) ++ Str.join ("" : Str) (y :: r)).cps.toList = _
    rw [str_app_toList, str_app_toList, join_empty (y :: r)]
    show x.cps.toList ++ [] ++ _ = _
    simp
theorem signs_join {ys : List Str} (h : ∀ y ∈ ys, IsSign y) : signs (Str.join ("" : Str) ys) = ys := by
  unfold signs
  rw [join_empty]
  induction ys with
  | nil => rfl
  | cons y ys ih =>
    obtain ⟨c, rfl⟩ := h y (List.mem_cons_self ..)
    rw [List.flatMap_cons, List.map_append, ih fun z hz => h z (List.mem_cons_of_mem _ hz)]
    rfl
theorem signs_len (s : Str) : (signs s).length = s.length := by
  unfold signs
  rw [List.length_map, Array.length_toList]
  rfl
theorem ltS_leS {a b : Str} : ltS b a = false ↔ leS a b = true := by
  rw [leS_iff]
  unfold ltS
  rw [decide_eq_false_iff_not]
  exact List.not_lt
theorem sortB_leS (xs : List Str) : sortB ltS xs = sortS xs := by
  unfold sortB sortS
  congr 1
  funext a b
  cases h : ltS b a with
  | false => rw [ltS_leS.mp h]; rfl
  | true =>
    cases h2 : leS a b with
    | false => rfl
    | true => rw [ltS_leS.mpr h2] at h; cases h
/-- strictly ascending texts -/
def Asc (ts : List Str) : Prop := ts.Pairwise fun a b => ltS a b = true
theorem lt_of_le_ne {a b : Str} (h : leS a b = true) (hn : a ≠ b) : ltS a b = true := by
  unfold ltS
  rw [decide_eq_true_iff]
  rw [leS_iff] at h
  exact Classical.byContradiction fun hc => hn (str_ext (List.le_antisymm h (List.not_lt.mp hc)))
theorem sortS_asc {xs : List Str} (h : xs.Nodup) : Asc (sortS xs) := by
  have h1 := sortS_pw xs
  have h2 : (sortS xs).Nodup := (sortS_perm xs).nodup_iff.mpr h
  unfold Asc
  revert h1 h2
  generalize sortS xs = ys
  intro h1 h2
  induction ys with
  | nil => exact .nil
  | cons y ys ih =>
    rw [List.pairwise_cons] at h1
    rw [List.nodup_cons] at h2
    exact .cons (fun b hb => lt_of_le_ne (h1.1 b hb) fun e => h2.1 (e ▸ hb)) (ih h1.2 h2.2)
theorem sum_ones {ys : List Str} (h : ∀ y ∈ ys, IsSign y) : (ys.map (·.length)).sum = ys.length := by
  induction ys with
  | nil => rfl
  | cons y ys ih =>
    rw [List.map_cons, List.sum_cons, ih fun z hz => h z (List.mem_cons_of_mem _ hz), (h y (List.mem_cons_self ..)).len, List.length_cons]
    omega
/-- an alphabet: distinct signs, ascending -/
structure AlphaOk (A : Str) : Prop where
  asc : Asc (signs A)
  pos : 0 < A.length
  le : A.length ≤ 6
theorem AlphaOk.nodup {A : Str} (h : AlphaOk A) : (signs A).Nodup := h.asc.imp fun {a b} hab e => by
  subst e
  unfold ltS at hab
  exact List.lt_irrefl _ (of_decide_eq_true hab)
/-- the rows of a machine of L letters and so many states -/
structure RowOk (L many : Nat) (row : List (Int × Int)) : Prop where
  len : row.length = L
  w0 : ∀ p ∈ row, 0 ≤ p.1 ∧ p.1 ≤ 1000
  to : ∀ p ∈ row, 0 ≤ p.2 ∧ p.2 < many
  pos : 0 < (row.map (·.1)).sum
structure RowsOk (L : Nat) (rows : List (List (Int × Int))) : Prop where
  ne : rows ≠ []
  le : rows.length ≤ 6
  row : ∀ r ∈ rows, RowOk L rows.length r
theorem sum_nonneg {l : List (Int × Int)} (h : ∀ p ∈ l, 0 ≤ p.1) : 0 ≤ (l.map (·.1)).sum := by
  induction l with
  | nil => exact Int.le_refl _
  | cons p l ih =>
    rw [List.map_cons, List.sum_cons]
    have := h p (List.mem_cons_self ..)
    have := ih fun q hq => h q (List.mem_cons_of_mem _ hq)
    omega
theorem sum_pos_of {l : List (Int × Int)} (h : ∀ p ∈ l, 0 ≤ p.1) {q : Int × Int} (hq : q ∈ l) (hp : 0 < q.1) : 0 < (l.map (·.1)).sum := by
  induction l with
  | nil => cases hq
  | cons p l ih =>
    rw [List.map_cons, List.sum_cons]
    have h1 := h p (List.mem_cons_self ..)
    have h2 := sum_nonneg fun q hq => h q (List.mem_cons_of_mem _ hq)
    rcases List.mem_cons.mp hq with e | e
    · subst e; omega
    · have := ih (fun q hq => h q (List.mem_cons_of_mem _ hq)) e; omega

/-- the least common multiple, as it is made -/
def lcmI (a b : Int) : Int := a / (Nat.gcd a.natAbs b.natAbs : Int) * b
theorem gcd_dvd_l (a b : Int) : (Nat.gcd a.natAbs b.natAbs : Int) ∣ a := Int.ofNat_dvd_left.mpr (Nat.gcd_dvd_left _ _)
theorem gcd_dvd_r (a b : Int) : (Nat.gcd a.natAbs b.natAbs : Int) ∣ b := Int.ofNat_dvd_left.mpr (Nat.gcd_dvd_right _ _)
theorem gcd_pos' {a b : Int} (h : 0 < a) : 0 < (Nat.gcd a.natAbs b.natAbs : Int) := by
  have : 0 < Nat.gcd a.natAbs b.natAbs := Nat.gcd_pos_of_pos_left _ (by omega)
  omega
theorem lcmI_pos {a b : Int} (ha : 0 < a) (hb : 0 < b) : 0 < lcmI a b := by
  unfold lcmI
  have hg := gcd_pos' (b := b) ha
  obtain ⟨c, hc⟩ := gcd_dvd_l a b
  have : a / (Nat.gcd a.natAbs b.natAbs : Int) = c := by
    conv => lhs; arg 1; rw [hc]
    exact Int.mul_ediv_cancel_left _ (by omega)
  rw [this]
  have : 0 < c := by
    apply Classical.byContradiction
    intro hn
    have h1 : (Nat.gcd a.natAbs b.natAbs : Int) * c ≤ 0 := Int.mul_nonpos_of_nonneg_of_nonpos (by omega) (by omega)
    omega
  exact Int.mul_pos this hb
theorem lcmI_dvd_r (a b : Int) : b ∣ lcmI a b := ⟨_, Int.mul_comm _ _⟩
theorem lcmI_dvd_l {a b : Int} (ha : 0 < a) : a ∣ lcmI a b := by
  unfold lcmI
  have hg := gcd_pos' (b := b) ha
  obtain ⟨c, hc⟩ := gcd_dvd_l a b
  obtain ⟨d, hd⟩ := gcd_dvd_r a b
  have e1 : a / (Nat.gcd a.natAbs b.natAbs : Int) = c := by
    conv => lhs; arg 1; rw [hc]
    exact Int.mul_ediv_cancel_left _ (by omega)
  rw [e1]
  refine ⟨d, ?_⟩
  conv => lhs; arg 2; rw [hd]
  conv => rhs; arg 1; rw [hc]
  rw [← Int.mul_assoc, Int.mul_comm c]
theorem lcmI_le {a b : Int} (ha : 0 < a) (hb : 0 < b) : lcmI a b ≤ a * b := by
  unfold lcmI
  exact Int.mul_le_mul_of_nonneg_right (Int.ediv_le_self _ (by omega)) (by omega)
theorem lcmI_eq {a b : Int} : a * b / (Nat.gcd a.natAbs b.natAbs : Int) = lcmI a b := by
  unfold lcmI
  rw [Int.mul_comm a b, Int.mul_ediv_assoc _ (gcd_dvd_l a b), Int.mul_comm]
theorem p_least {a b : Int} {k : Int → Prop} (ha : 0 < a) (hb : 0 < b) (hl : a.natAbs.log2 < 9000) (hm : b.natAbs.log2 < 9000) (h : k (lcmI a b)) : w_least_multiple (a, b) k := by
  unfold w_least_multiple
  have ea : a = ((a.natAbs : Nat) : Int) := by omega
  have eb : b = ((b.natAbs : Nat) : Int) := by omega
  have hg := gcd_pos' (b := b) ha
  have q := p_gcd (a := a.natAbs) (b := b.natAbs) (k := fun r1 => CDivW a r1 ∧ (CMulW (a / r1) b ∧ (k ((a / r1) * b)))) ?_
  · rw [← ea, ← eb] at q
    exact q
  · refine ⟨⟨hg, ?_⟩, ?_, h⟩
    · refine Nat.lt_of_le_of_lt (log2_mono ?_) hl
      rw [Int.natAbs_natCast]
      exact Nat.gcd_le_left _ (by omega)
    · show _ + _ < 1000000
      have := log2_mono (natAbs_div_le a (Nat.gcd a.natAbs b.natAbs : Int))
      omega
/-! the texts of a machine -/
def tot (row : List (Int × Int)) : Int := (row.map (·.1)).sum
def unitOf (rows : List (List (Int × Int))) : Int := rows.foldl (fun u r => lcmI u (tot r)) 1
def brs (A : Str) (rows : List (List (Int × Int))) (U : Int) (x : Str × Int × Int) : List (Str × Int × Int) :=
  (((signs A).zip (rows.getD x.2.1.toNat [])).filter fun p => decide (0 < p.2.1)).map fun p => (x.1 ++ p.1, p.2.2, x.2.2 * p.2.1 * (U / tot (rows.getD x.2.1.toNat [])))
def found (A : Str) (start : Int) (rows : List (List (Int × Int))) (U : Int) : Nat → List (Str × Int × Int)
  | 0 => [(("" : Str), start, 1)]
  | n + 1 => (found A start rows U n).flatMap (brs A rows U)
theorem foldl_unit {rows : List (List (Int × Int))} (h : ∀ r ∈ rows, 0 < tot r ∧ tot r ≤ 6000) : ∀ u : Int, 0 < u → 0 < rows.foldl (fun u r => lcmI u (tot r)) u ∧ u ∣ rows.foldl (fun u r => lcmI u (tot r)) u ∧ (∀ r ∈ rows, tot r ∣ rows.foldl (fun u r => lcmI u (tot r)) u) ∧ rows.foldl (fun u r => lcmI u (tot r)) u ≤ u * 6000 ^ rows.length := by
  induction rows with
  | nil => exact fun u hu => ⟨hu, Int.dvd_refl _, nofun, by simp⟩
  | cons r rows ih =>
    intro u hu
    have hr := h r (List.mem_cons_self ..)
    obtain ⟨h1, h2, h3, h4⟩ := ih (fun q hq => h q (List.mem_cons_of_mem _ hq)) (lcmI u (tot r)) (lcmI_pos hu hr.1)
    refine ⟨h1, Int.dvd_trans (lcmI_dvd_l hu) h2, fun q hq => ?_, ?_⟩
    · rcases List.mem_cons.mp hq with e | e
      · rw [e]; exact Int.dvd_trans (lcmI_dvd_r _ _) h2
      · exact h3 q e
    · refine Int.le_trans h4 ?_
      rw [List.length_cons, Int.pow_succ, Int.mul_comm (6000 ^ rows.length), ← Int.mul_assoc]
      refine Int.mul_le_mul_of_nonneg_right ?_ (Int.pow_nonneg (by decide))
      exact Int.le_trans (lcmI_le hu hr.1) (Int.mul_le_mul_of_nonneg_left hr.2 (by omega))
theorem tot_le {L many : Nat} {row : List (Int × Int)} (h : RowOk L many row) (hL : L ≤ 6) : tot row ≤ 6000 := by
  have : ∀ l : List (Int × Int), (∀ p ∈ l, p.1 ≤ 1000) → (l.map (·.1)).sum ≤ 1000 * l.length := by
    intro l
    induction l with
    | nil => simp
    | cons p l ih =>
      intro h
      have := h p (List.mem_cons_self ..)
      have := ih fun q hq => h q (List.mem_cons_of_mem _ hq)
      rw [List.map_cons, List.sum_cons, List.length_cons]
      omega
  have := this row fun p hp => (h.w0 p hp).2
  have hl := h.len
  unfold tot
  omega
/-- what a machine is made of -/
structure MachOk (A : Str) (start : Int) (rows : List (List (Int × Int))) : Prop where
  al : AlphaOk A
  rw_ : RowsOk A.length rows
  s0 : 0 ≤ start
  s1 : start < rows.length
section
variable {A : Str} {start : Int} {rows : List (List (Int × Int))}
theorem MachOk.tots (M : MachOk A start rows) : ∀ r ∈ rows, 0 < tot r ∧ tot r ≤ 6000 := fun r hr => ⟨(M.rw_.row r hr).pos, tot_le (M.rw_.row r hr) M.al.le⟩
theorem MachOk.unit_pos (M : MachOk A start rows) : 0 < unitOf rows := (foldl_unit M.tots 1 (by decide)).1
theorem MachOk.unit_le (M : MachOk A start rows) : unitOf rows ≤ 6000 ^ 6 := by
  have h := (foldl_unit M.tots 1 (by decide)).2.2.2
  have h2 : (6000 : Int) ^ rows.length ≤ 6000 ^ 6 := by
    have hB : ∀ i, i < 7 → (6000 : Int) ^ i ≤ 6000 ^ 6 := by decide
    exact hB _ (by have := M.rw_.le; omega)
  rw [Int.one_mul] at h
  exact Int.le_trans h h2
theorem MachOk.dvd (M : MachOk A start rows) : ∀ r ∈ rows, tot r ∣ unitOf rows := (foldl_unit M.tots 1 (by decide)).2.2.1
/-- a state's row -/
theorem MachOk.at_ (M : MachOk A start rows) {s : Int} (h0 : 0 ≤ s) (h1 : s < rows.length) : ∃ r, atI rows s = some r ∧ rows.getD s.toNat [] = r ∧ r ∈ rows := by
  obtain ⟨r, hr, ha⟩ := atI_lt h0 h1
  exact ⟨r, ha, by rw [List.getD_eq_getElem?_getD, hr]; rfl, List.mem_of_getElem? hr⟩
theorem foundStates (M : MachOk A start rows) (U : Int) : ∀ n, ∀ x ∈ found A start rows U n, 0 ≤ x.2.1 ∧ x.2.1 < rows.length
  | 0 => fun x hx => by
    have e : x = (("" : Str), start, 1) := List.mem_singleton.mp hx
    rw [e]
    exact ⟨M.s0, M.s1⟩
  | n + 1 => fun x hx => by
    obtain ⟨y, hy, hx⟩ := List.mem_flatMap.mp hx
    obtain ⟨p, hp, e⟩ := List.mem_map.mp hx
    have hp := (List.mem_filter.mp hp).1
    obtain ⟨h0, h1⟩ := foundStates M U n y hy
    obtain ⟨r, _, er, hr⟩ := M.at_ h0 h1
    rw [er] at hp
    have hp2 := (List.of_mem_zip (a := p.1) (b := p.2) hp).2
    rw [← e]
    exact (M.rw_.row r hr).to _ hp2
theorem brs_len (M : MachOk A start rows) (U : Int) (x : Str × Int × Int) : (brs A rows U x).length ≤ 6 := by
  unfold brs
  rw [List.length_map]
  refine Nat.le_trans (List.length_filter_le _ _) ?_
  rw [List.length_zip, signs_len]
  have := M.al.le
  omega
theorem flat_len {α β : Type} {f : α → List β} {c : Nat} (h : ∀ x, (f x).length ≤ c) : ∀ l : List α, (l.flatMap f).length ≤ c * l.length
  | [] => by simp
  | x :: l => by
    rw [List.flatMap_cons, List.length_append, List.length_cons, Nat.mul_add, Nat.mul_one]
    have := h x
    have := flat_len h l
    omega
theorem found_len (M : MachOk A start rows) (U : Int) : ∀ n, (found A start rows U n).length ≤ 6 ^ n
  | 0 => Nat.le_refl _
  | n + 1 => by
    have h1 := flat_len (brs_len M U) (found A start rows U n)
    have h2 := found_len M U n
    rw [Nat.pow_succ]
    show (List.flatMap _ _).length ≤ _
    omega
theorem found_text (M : MachOk A start rows) (U : Int) : ∀ n, ∀ x ∈ found A start rows U n, x.1.length = n
  | 0 => fun x hx => by rw [List.mem_singleton.mp hx]; rfl
  | n + 1 => fun x hx => by
    obtain ⟨y, hy, hx⟩ := List.mem_flatMap.mp hx
    obtain ⟨p, hp, e⟩ := List.mem_map.mp hx
    have hp := (List.of_mem_zip (a := p.1) (b := p.2) (List.mem_filter.mp hp).1).1
    rw [← e, strlen_app, found_text M U n y hy]
    obtain ⟨c, hc, e2⟩ := List.mem_map.mp hp
    rw [← e2]
    rfl
theorem sign_mem {s : Str} (h : s ∈ signs A) : IsSign s := by
  obtain ⟨c, hc, e⟩ := List.mem_map.mp h
  exact ⟨c, e.symm⟩
theorem zip_fst_nodup {α β : Type} {l : List α} (h : l.Nodup) : ∀ m : List β, ((l.zip m).map (·.1)).Nodup := by
  induction l with
  | nil => intro m; simp
  | cons x l ih =>
    intro m
    cases m with
    | nil => simp
    | cons y m =>
      rw [List.nodup_cons] at h
      rw [List.zip_cons_cons, List.map_cons, List.nodup_cons]
      refine ⟨fun hx => ?_, ih h.2 m⟩
      obtain ⟨p, hp, e⟩ := List.mem_map.mp hx
      have q := (List.of_mem_zip (a := p.1) (b := p.2) hp).1
      rw [e] at q
      exact h.1 q
theorem app_sign_inj {t u s r : Str} (hl : t.length = u.length) (hs : IsSign s) (hr : IsSign r) (h : t ++ s = u ++ r) : t = u ∧ s = r := by
  obtain ⟨c, rfl⟩ := hs
  obtain ⟨d, rfl⟩ := hr
  have e : t.cps.toList ++ [c] = u.cps.toList ++ [d] := by
    rw [← show ((⟨#[c]⟩ : Str)).cps.toList = [c] from rfl, ← show ((⟨#[d]⟩ : Str)).cps.toList = [d] from rfl, ← str_app_toList, ← str_app_toList, h]
  have hl' : t.cps.toList.length = u.cps.toList.length := by rw [Array.length_toList, Array.length_toList]; exact hl
  obtain ⟨h1, h2⟩ := List.append_inj e hl'
  refine ⟨str_ext h1, ?_⟩
  injection h2 with h2
  rw [h2]
theorem brs_texts (U : Int) (x : Str × Int × Int) : ∀ y ∈ brs A rows U x, ∃ s ∈ signs A, y.1 = x.1 ++ s := fun y hy => by
  obtain ⟨p, hp, e⟩ := List.mem_map.mp hy
  exact ⟨p.1, (List.of_mem_zip (a := p.1) (b := p.2) (List.mem_filter.mp hp).1).1, by rw [← e]⟩
theorem brs_nodup (M : MachOk A start rows) (U : Int) (x : Str × Int × Int) : ((brs A rows U x).map (·.1)).Nodup := by
  unfold brs
  rw [List.map_map]
  have h := (zip_fst_nodup M.al.nodup (rows.getD x.2.1.toNat [])).sublist ((List.filter_sublist (p := fun p : Str × Int × Int => decide (0 < p.2.1))).map _)
  rw [List.nodup_iff_pairwise_ne, List.pairwise_map] at h ⊢
  refine h.imp_of_mem fun {a b} ha hb hab e => ?_
  have ha := (List.of_mem_zip (a := a.1) (b := a.2) (List.mem_filter.mp ha).1).1
  have hb := (List.of_mem_zip (a := b.1) (b := b.2) (List.mem_filter.mp hb).1).1
  exact hab (app_sign_inj rfl (sign_mem ha) (sign_mem hb) e).2
theorem flat_nodup {α : Type} {f : Str × Int × Int → List (Str × Int × Int)} (hf : ∀ x, ((f x).map (·.1)).Nodup) (hd : ∀ x y, x.1 ≠ y.1 → x.1.length = y.1.length → ∀ a ∈ f x, ∀ b ∈ f y, a.1 ≠ b.1) : ∀ l : List (Str × Int × Int), (l.map (·.1)).Nodup → (∀ x ∈ l, ∀ y ∈ l, x.1.length = y.1.length) → ((l.flatMap f).map (·.1)).Nodup
  | [], _, _ => by simp
  | x :: l, h, hl => by
    rw [List.map_cons, List.nodup_cons] at h
    rw [List.flatMap_cons, List.map_append, List.nodup_append]
    refine ⟨hf x, flat_nodup (α := α) hf hd l h.2 fun a ha b hb => hl a (List.mem_cons_of_mem _ ha) b (List.mem_cons_of_mem _ hb), fun a ha b hb e => ?_⟩
    obtain ⟨p, hp, e1⟩ := List.mem_map.mp ha
    obtain ⟨q, hq, e2⟩ := List.mem_map.mp hb
    obtain ⟨y, hy, hq⟩ := List.mem_flatMap.mp hq
    refine hd x y (fun e3 => h.1 (List.mem_map.mpr ⟨y, hy, e3.symm⟩)) (hl x (List.mem_cons_self ..) y (List.mem_cons_of_mem _ hy)) p hp q hq (by rw [e1, e2, e])
theorem found_nodup (M : MachOk A start rows) (U : Int) : ∀ n, ((found A start rows U n).map (·.1)).Nodup
  | 0 => by simp [found]
  | n + 1 => flat_nodup (α := Unit) (brs_nodup M U) (fun x y hxy hl a ha b hb e => by
    obtain ⟨s, hs, e1⟩ := brs_texts U x a ha
    obtain ⟨r, hr, e2⟩ := brs_texts U y b hb
    rw [e1, e2] at e
    exact hxy (app_sign_inj hl (sign_mem hs) (sign_mem hr) e).1) _ (found_nodup M U n) fun x hx y hy => by rw [found_text M U n x hx, found_text M U n y hy]
/-- weights -/
theorem sum_zip {f : Int → Int} (hf : f 0 = 0) : ∀ (ss : List Str) (row : List (Int × Int)), ss.length = row.length → (∀ p ∈ row, 0 ≤ p.1) →
    ((((ss.zip row).filter fun p => decide (0 < p.2.1)).map fun p => f p.2.1)).sum = (row.map fun p => f p.1).sum
  | [], [], _, _ => rfl
  | [], _ :: _, h, _ => by simp at h
  | _ :: _, [], h, _ => by simp at h
  | s :: ss, p :: row, h, hp => by
    have ih := sum_zip hf ss row (by simpa using h) fun q hq => hp q (List.mem_cons_of_mem _ hq)
    rw [List.zip_cons_cons, List.map_cons, List.sum_cons]
    by_cases h0 : 0 < p.1
    · rw [List.filter_cons_of_pos (by exact decide_eq_true h0), List.map_cons, List.sum_cons, ih]
    · rw [List.filter_cons_of_neg (by simpa using h0), ih]
      have : p.1 = 0 := by have := hp p (List.mem_cons_self ..); omega
      rw [this, hf]; omega
theorem sum_mul_c {α : Type} (f : α → Int) (a c : Int) : ∀ l : List α, (l.map fun p => a * f p * c).sum = a * (l.map f).sum * c
  | [] => by simp
  | x :: l => by
    rw [List.map_cons, List.sum_cons, List.map_cons, List.sum_cons, sum_mul_c f a c l, Int.mul_add, Int.add_mul]
theorem brs_sum (M : MachOk A start rows) {x : Str × Int × Int} (h0 : 0 ≤ x.2.1) (h1 : x.2.1 < rows.length) : ((brs A rows (unitOf rows) x).map (·.2.2)).sum = x.2.2 * unitOf rows := by
  obtain ⟨r, _, er, hr⟩ := M.at_ h0 h1
  have hrow := M.rw_.row r hr
  unfold brs
  rw [er, List.map_map]
  have e := sum_zip (f := fun w => x.2.2 * w * (unitOf rows / tot r)) (by simp) (signs A) r (by rw [signs_len, hrow.len]) fun p hp => (hrow.w0 p hp).1
  refine Eq.trans e ?_
  rw [sum_mul_c (fun p : Int × Int => p.1), Int.mul_assoc]
  show x.2.2 * (tot r * (unitOf rows / tot r)) = _
  rw [Int.mul_ediv_cancel' (M.dvd r hr)]
theorem flat_sum {f : Str × Int × Int → List (Str × Int × Int)} {c : Int} : ∀ l : List (Str × Int × Int), (∀ x ∈ l, ((f x).map (·.2.2)).sum = x.2.2 * c) → ((l.flatMap f).map (·.2.2)).sum = (l.map (·.2.2)).sum * c
  | [], _ => by simp
  | x :: l, h => by
    rw [List.flatMap_cons, List.map_append, List.sum_append, h x (List.mem_cons_self ..), flat_sum l fun y hy => h y (List.mem_cons_of_mem _ hy), List.map_cons, List.sum_cons, Int.add_mul]
theorem found_sum (M : MachOk A start rows) : ∀ n, ((found A start rows (unitOf rows) n).map (·.2.2)).sum = unitOf rows ^ n
  | 0 => by rw [Int.pow_zero]; rfl
  | n + 1 => by
    have := flat_sum (found A start rows (unitOf rows) n) fun x hx => brs_sum M (foundStates M _ n x hx).1 (foundStates M _ n x hx).2
    rw [found_sum M n] at this
    rw [Int.pow_succ]
    exact this
theorem found_pos (M : MachOk A start rows) : ∀ n, ∀ x ∈ found A start rows (unitOf rows) n, 1 ≤ x.2.2
  | 0 => fun x hx => by rw [List.mem_singleton.mp hx]; exact Int.le_refl _
  | n + 1 => fun x hx => by
    obtain ⟨y, hy, hx⟩ := List.mem_flatMap.mp hx
    obtain ⟨p, hp, e⟩ := List.mem_map.mp hx
    have hp := of_decide_eq_true (List.mem_filter.mp hp).2
    obtain ⟨h0, h1⟩ := foundStates M _ n y hy
    obtain ⟨r, _, er, hr⟩ := M.at_ h0 h1
    have hy := found_pos M n y hy
    obtain ⟨c, hc⟩ := M.dvd r hr
    have ht := (M.tots r hr).1
    have hU := M.unit_pos
    have hq : 0 < unitOf rows / tot r := by
      rw [hc, Int.mul_ediv_cancel_left _ (by omega)]
      apply Classical.byContradiction
      intro hn
      have := Int.mul_nonpos_of_nonneg_of_nonpos (a := tot r) (b := c) (by omega) (by omega)
      omega
    rw [← e, er]
    have h2 := Int.mul_pos (Int.mul_pos (show 0 < y.2.2 by omega) hp) hq
    show 1 ≤ y.2.2 * p.2.1 * (unitOf rows / tot r)
    omega
theorem found_le (M : MachOk A start rows) (n : Nat) {x : Str × Int × Int} (hx : x ∈ found A start rows (unitOf rows) n) : x.2.2 ≤ unitOf rows ^ n := by
  rw [← found_sum M n]
  have hp := found_pos M n
  revert hx hp
  generalize found A start rows (unitOf rows) n = l
  intro hx hp
  induction l with
  | nil => cases hx
  | cons y l ih =>
    rw [List.map_cons, List.sum_cons]
    have h1 := hp y (List.mem_cons_self ..)
    have h2 : 0 ≤ (l.map (·.2.2)).sum := by
      clear ih hx
      have hp2 : ∀ z ∈ l, 1 ≤ z.2.2 := fun z hz => hp z (List.mem_cons_of_mem _ hz)
      clear hp h1
      induction l with
      | nil => exact Int.le_refl _
      | cons z l ih =>
        rw [List.map_cons, List.sum_cons]
        have := hp2 z (List.mem_cons_self ..)
        have := ih fun q hq => hp2 q (List.mem_cons_of_mem _ hq)
        omega
    rcases List.mem_cons.mp hx with e | e
    · rw [e]; omega
    · have := ih e fun z hz => hp z (List.mem_cons_of_mem _ hz); omega
theorem pow_le {a b : Int} (h0 : 0 ≤ a) (h : a ≤ b) : ∀ n : Nat, a ^ n ≤ b ^ n
  | 0 => by rw [Int.pow_zero, Int.pow_zero]; exact Int.le_refl _
  | n + 1 => by
    rw [Int.pow_succ, Int.pow_succ]
    exact Int.mul_le_mul (pow_le h0 h n) h h0 (Int.pow_nonneg (by omega))
theorem unit_pow_lt (M : MachOk A start rows) {n : Nat} (hn : n ≤ 8) : unitOf rows ^ n < 2 ^ 620 := by
  have h1 : unitOf rows ^ n ≤ (6000 ^ 6) ^ n := pow_le (by have := M.unit_pos; omega) M.unit_le n
  have hB : ∀ i, i < 9 → ((6000 : Int) ^ 6) ^ i < 2 ^ 620 := by decide
  exact Int.lt_of_le_of_lt h1 (hB n (by omega))
theorem log_lt {n : Int} {B : Nat} (hB : B < 9000) (h0 : 0 ≤ n) (h : n < 2 ^ B) : n.natAbs.log2 < 9000 := by
  refine Nat.lt_of_le_of_lt (lg_le (k := B) ?_) hB
  have e : ((2 : Int) ^ B) = ((2 ^ B : Nat) : Int) := by simp
  omega
theorem MachOk.unit_lt (M : MachOk A start rows) : unitOf rows < 2 ^ 80 := Int.lt_of_le_of_lt M.unit_le (by decide)
theorem unit_take (M : MachOk A start rows) (i : Nat) : 0 < (rows.take i).foldl (fun u r => lcmI u (tot r)) 1 ∧ (rows.take i).foldl (fun u r => lcmI u (tot r)) 1 < 2 ^ 80 := by
  have q := foldl_unit (rows := rows.take i) (fun r hr => M.tots r (List.mem_of_mem_take hr)) 1 (by decide)
  refine ⟨q.1, ?_⟩
  have h := q.2.2.2
  have h2 : (6000 : Int) ^ (rows.take i).length ≤ 6000 ^ 6 := by
    have hB : ∀ i, i < 7 → (6000 : Int) ^ i ≤ 6000 ^ 6 := by decide
    refine hB _ ?_
    rw [List.length_take]
    have := M.rw_.le
    omega
  rw [Int.one_mul] at h
  exact Int.lt_of_le_of_lt (Int.le_trans h h2) (by decide)
theorem unit_step {i : Nat} {r : List (Int × Int)} (h : rows[i]? = some r) : (rows.take (i + 1)).foldl (fun u r => lcmI u (tot r)) 1 = lcmI ((rows.take i).foldl (fun u r => lcmI u (tot r)) 1) (tot r) := by
  rw [List.take_add_one, h, List.foldl_append]
  rfl
theorem tot_lt (M : MachOk A start rows) {r : List (Int × Int)} (h : r ∈ rows) : (tot r).natAbs.log2 < 9000 := by
  have := M.tots r h
  exact log_lt (B := 20) (by decide) (by omega) (by have : (6000 : Int) < 2 ^ 20 := by decide
                                                    omega)
/-- a walk that adds to a list -/
theorem WFor_app {α β : Type} {f : α → List β} {xs : List α} {s0 : List β} {wb : (List β → Prop) → List β → α → Prop} {wk : List β → Prop} (h : ∀ x ∈ xs, ∀ s (nx : List β → Prop), (s ++ f x) <+: (s0 ++ xs.flatMap f) → nx (s ++ f x) → wb nx s x) (hk : wk (s0 ++ xs.flatMap f)) : WFor xs s0 wb wk := by
  refine WFor_by (fun i s => s = s0 ++ (xs.take i).flatMap f) (by simp) (fun i x s hx hs => ?_) (fun s hs => ?_)
  · have e : s ++ f x = s0 ++ (xs.take (i + 1)).flatMap f := by
      rw [hs, List.take_add_one, hx, List.flatMap_append, List.append_assoc]
      simp
    refine h x (List.mem_of_getElem? hx) s _ ?_ e
    rw [e]
    refine (List.prefix_append_right_inj _).mpr ?_
    refine ⟨(xs.drop (i + 1)).flatMap f, ?_⟩
    rw [← List.flatMap_append, List.take_append_drop]
  · rw [hs, List.take_of_length_le (Nat.le_refl _)]
    exact hk
theorem flat_if {α β : Type} (p : α → Bool) (g : α → β) : ∀ xs : List α, xs.flatMap (fun x => if p x = true then [g x] else []) = (xs.filter p).map g
  | [] => rfl
  | x :: xs => by
    rw [List.flatMap_cons, flat_if p g xs]
    by_cases h : p x = true
    · rw [if_pos h, List.filter_cons_of_pos h]; rfl
    · rw [if_neg h, List.filter_cons_of_neg h]; rfl
theorem pow6 {n : Nat} (h : n ≤ 8) : 6 ^ n ≤ 6 ^ 8 := Nat.pow_le_pow_right (by decide) h
theorem map_flat {α β γ : Type} (f : α → List β) (g : β → γ) : ∀ xs : List α, (xs.flatMap f).map g = xs.flatMap fun x => (f x).map g
  | [] => rfl
  | x :: xs => by rw [List.flatMap_cons, List.map_append, map_flat f g xs, List.flatMap_cons]
/-- counting the ways -/
def rowsum (v : List Int) (r : List (Int × Int)) : Int := ((r.filter fun p => decide (0 < p.1)).map fun p => v.getD p.2.toNat 0).sum
def vec (rows : List (List (Int × Int))) : Nat → List Int
  | 0 => rows.map fun _ => 1
  | n + 1 => rows.map (rowsum (vec rows n))
theorem vec_len : ∀ n, (vec rows n).length = rows.length
  | 0 => List.length_map ..
  | _ + 1 => List.length_map ..
theorem zip_rowsum {f : Int → Int} : ∀ (ss : List Str) (row : List (Int × Int)), ss.length = row.length →
    (((ss.zip row).filter fun p => decide (0 < p.2.1)).map fun p => f p.2.2).sum = ((row.filter fun p => decide (0 < p.1)).map fun p => f p.2).sum
  | [], [], _ => rfl
  | [], _ :: _, h => by simp at h
  | _ :: _, [], h => by simp at h
  | s :: ss, p :: row, h => by
    have ih := zip_rowsum (f := f) ss row (by simpa using h)
    rw [List.zip_cons_cons]
    by_cases h0 : 0 < p.1
    · rw [List.filter_cons_of_pos (by exact decide_eq_true h0), List.filter_cons_of_pos (by exact decide_eq_true h0), List.map_cons, List.sum_cons, List.map_cons, List.sum_cons, ih]
    · rw [List.filter_cons_of_neg (by simpa using h0), List.filter_cons_of_neg (by simpa using h0), ih]
theorem brs_ways (M : MachOk A start rows) (U : Int) (n : Nat) {x : Str × Int × Int} (h0 : 0 ≤ x.2.1) (h1 : x.2.1 < rows.length) : ((brs A rows U x).map fun y => (vec rows n).getD y.2.1.toNat 0).sum = (vec rows (n + 1)).getD x.2.1.toNat 0 := by
  obtain ⟨r, ha, er, hr⟩ := M.at_ h0 h1
  have hrow := M.rw_.row r hr
  unfold brs
  rw [er, List.map_map]
  have e := zip_rowsum (f := fun s => (vec rows n).getD s.toNat 0) (signs A) r (by rw [signs_len, hrow.len])
  refine Eq.trans e ?_
  show _ = (rows.map (rowsum (vec rows n))).getD x.2.1.toNat 0
  have hlt : x.2.1.toNat < rows.length := by omega
  have er' : rows[x.2.1.toNat] = r := by
    rw [List.getD_eq_getElem?_getD, List.getElem?_eq_getElem hlt] at er
    exact er
  rw [List.getD_eq_getElem?_getD, List.getElem?_map, List.getElem?_eq_getElem hlt, er']
  rfl
theorem flat_sum2 {f : Str × Int × Int → List (Str × Int × Int)} {g h : Str × Int × Int → Int} : ∀ l : List (Str × Int × Int), (∀ x ∈ l, ((f x).map g).sum = h x) → ((l.flatMap f).map g).sum = (l.map h).sum
  | [], _ => rfl
  | x :: l, hh => by
    rw [List.flatMap_cons, List.map_append, List.sum_append, hh x (List.mem_cons_self ..), flat_sum2 l fun y hy => hh y (List.mem_cons_of_mem _ hy), List.map_cons, List.sum_cons]
theorem ways_step (M : MachOk A start rows) (U : Int) (n m : Nat) : ((found A start rows U (n + 1)).map fun y => (vec rows m).getD y.2.1.toNat 0).sum = ((found A start rows U n).map fun y => (vec rows (m + 1)).getD y.2.1.toNat 0).sum :=
  flat_sum2 _ fun x hx => brs_ways M U m (foundStates M U n x hx).1 (foundStates M U n x hx).2
theorem ways_all (M : MachOk A start rows) (U : Int) : ∀ n m, ((found A start rows U n).map fun y => (vec rows m).getD y.2.1.toNat 0).sum = (vec rows (n + m)).getD start.toNat 0
  | 0, m => by
    rw [Nat.zero_add]
    show (vec rows m).getD start.toNat 0 + 0 = _
    omega
  | n + 1, m => by
    rw [ways_step M U n m, ways_all M U n (m + 1)]
    congr 2
    omega
theorem ways_len (M : MachOk A start rows) (U : Int) (n : Nat) : (vec rows n).getD start.toNat 0 = ((found A start rows U n).length : Int) := by
  have h := ways_all M U n 0
  rw [Nat.add_zero] at h
  rw [← h]
  have hs := foundStates M U n
  revert hs
  generalize found A start rows U n = l
  intro hs
  induction l with
  | nil => rfl
  | cons x l ih =>
    rw [List.map_cons, List.sum_cons, ih fun y hy => hs y (List.mem_cons_of_mem _ hy), List.length_cons]
    have h1 := hs x (List.mem_cons_self ..)
    have hlt : x.2.1.toNat < rows.length := by omega
    have : (vec rows 0).getD x.2.1.toNat 0 = 1 := by
      show (rows.map fun _ => (1 : Int)).getD _ 0 = 1
      rw [List.getD_eq_getElem?_getD, List.getElem?_map, List.getElem?_eq_getElem hlt]
      rfl
    rw [this]
    omega
/-- the words of a machine -/
def wordsOf (A : Str) (start : Int) (rows : List (List (Int × Int))) (n : Nat) : List (Str × Int) := (found A start rows (unitOf rows) n).map fun x => (x.1, x.2.2)
theorem words_nodup (M : MachOk A start rows) (n : Nat) : ((wordsOf A start rows n).map (·.1)).Nodup := by
  unfold wordsOf
  rw [List.map_map]
  exact found_nodup M _ n
theorem words_sum (M : MachOk A start rows) (n : Nat) : ((wordsOf A start rows n).map (·.2)).sum = unitOf rows ^ n := by
  unfold wordsOf
  rw [List.map_map]
  exact found_sum M n
theorem words_ne (M : MachOk A start rows) (n : Nat) : wordsOf A start rows n ≠ [] := by
  intro e
  have h := words_sum M n
  rw [e] at h
  have : 0 < unitOf rows ^ n := Int.pow_pos M.unit_pos
  have h : (0 : Int) = unitOf rows ^ n := h
  omega
theorem words_pos (M : MachOk A start rows) (n : Nat) : ∀ p ∈ wordsOf A start rows n, 1 ≤ p.2 := fun p hp => by
  obtain ⟨x, hx, e⟩ := List.mem_map.mp hp
  rw [← e]
  exact found_pos M n x hx
theorem words_lt (M : MachOk A start rows) {n : Nat} (hn : n ≤ 8) : ∀ p ∈ wordsOf A start rows n, p.2 < 2 ^ 620 := fun p hp => by
  obtain ⟨x, hx, e⟩ := List.mem_map.mp hp
  rw [← e]
  exact Int.lt_of_le_of_lt (found_le M n hx) (unit_pow_lt M hn)
theorem words_len (n : Nat) : (wordsOf A start rows n).length = (found A start rows (unitOf rows) n).length := List.length_map ..
end
theorem dictOf_take {α : Type} {l : List (Str × α)} (h : (l.map (·.1)).Nodup) : dictOf l = l := by
  unfold dictOf
  have : ∀ (r d : List (Str × α)), ((d ++ r).map (·.1)).Nodup → r.foldl (fun d q => putk d q.1 q.2) d = d ++ r := by
    intro r
    induction r with
    | nil => intro d _; simp
    | cons q r ih =>
      intro d hd
      rw [List.foldl_cons]
      have hq : q.1 ∉ d.map (·.1) := by
        rw [List.map_append, List.nodup_append] at hd
        exact fun hm => hd.2.2 _ hm q.1 (by simp) rfl
      have e : putk d q.1 q.2 = d ++ [(q.1, q.2)] := put_new hq
      rw [e, ih _ (by rw [List.append_assoc]; exact hd), List.append_assoc]
      rfl
  have q := this l [] (by simpa using h)
  simpa using q
theorem pow_abs {a : Int} {c i : Nat} (h : a.natAbs ≤ 2 ^ c) : (a ^ i).natAbs < 2 ^ (c * i + 1) := by
  rw [Int.natAbs_pow, Nat.pow_succ, Nat.pow_mul]
  have h1 := Nat.pow_le_pow_left h i
  have h2 : 0 < (2 ^ c) ^ i := Nat.pow_pos (Nat.pow_pos (by decide))
  omega

theorem p_power {a : Int} {n : Nat} {k : Int → Prop} (h0 : 0 < a) (h1 : a < 2 ^ 80) (hn : n ≤ 64) (h : k (a ^ n)) : w_power (a, (n : Int)) k := by
  unfold w_power
  simp only [Bnd]
  refine ⟨by omega, WFor_by (fun i s => s = a ^ i) (Int.pow_zero _).symm (fun i x s hx hs => ?_) (fun s hs => ?_)⟩
  · subst hs
    have hi := (rng_at hx).1
    exact ⟨cmul_of (80 * i + 1) 80 (pow_abs (by omega)) (by omega) (by omega), (Int.pow_succ _ _).symm⟩
  · rw [rng_length, Int.toNat_natCast] at hs
    rw [hs]; exact h

theorem found_succ {A : Str} {start : Int} {rows : List (List (Int × Int))} {U : Int} (n : Nat) : found A start rows U (n + 1) = (found A start rows U n).flatMap (brs A rows U) := rfl
/-- what a branch needs of its numbers -/
structure BrOk (U : Int) (x : Int) (w t : Int) : Prop where
  m1 : CMulW x w
  d1 : CDivW U t
  m2 : CMulW (x * w) (U / t)
theorem br_ok {A : Str} {start : Int} {rows : List (List (Int × Int))} (M : MachOk A start rows) {n : Nat} (hn : n ≤ 8) {x : Str × Int × Int} (hx : x ∈ found A start rows (unitOf rows) n) {r : List (Int × Int)} (hr : r ∈ rows) {p : Int × Int} (hp : p ∈ r) : BrOk (unitOf rows) x.2.2 p.1 (tot r) := by
  have h1 := found_pos M n x hx
  have h2 := Int.lt_of_le_of_lt (found_le M n hx) (unit_pow_lt M hn)
  have hp := (M.rw_.row r hr).w0 p hp
  have hx2 := log_lt (B := 620) (by decide) (by omega) h2
  have hU := log_lt (B := 80) (by decide) (Int.le_of_lt M.unit_pos) M.unit_lt
  have hw : p.1.natAbs.log2 < 9000 := log_lt (B := 20) (by decide) hp.1 (by have : (1000 : Int) < 2 ^ 20 := by decide
                                                                            omega)
  have hq : (unitOf rows / tot r).natAbs.log2 < 9000 := Nat.lt_of_le_of_lt (log2_mono (natAbs_div_le _ _)) hU
  have hxw : (x.2.2 * p.1).natAbs.log2 < 9000 := by
    refine log_lt (B := 640) (by decide) (Int.mul_nonneg (by omega) hp.1) ?_
    have a1 : x.2.2 * p.1 ≤ 2 ^ 620 * 1000 := Int.mul_le_mul (Int.le_of_lt h2) hp.2 hp.1 (by decide)
    have a2 : (2 : Int) ^ 620 * 1000 < 2 ^ 640 := by decide
    omega
  exact ⟨by show _ + _ < 1000000; omega, ⟨(M.tots r hr).1, tot_lt M hr⟩, by show _ + _ < 1000000; omega⟩

def conv (x : Str × Int × Int) : Str × Int × Int := (x.1, x.2.2, x.2.1)
theorem conv_key (l : List (Str × Int × Int)) : (l.map conv).map (·.1) = l.map (·.1) := by rw [List.map_map]; rfl
theorem p_all_weights {A : Str} {start : Int} {rows : List (List (Int × Int))} {n : Nat} {W : Int} {k : List (Str × Int) → Prop} (M : MachOk A start rows) (hn : n ≤ 8) (h : k (wordsOf A start rows n)) : w_Machine_all_weights (A, start, rows, (n : Int), unitOf rows, W) k := by
  unfold w_Machine_all_weights
  simp only [Bnd]
  refine ⟨by omega, WFor_by (fun i s => s = (found A start rows (unitOf rows) i).map conv) rfl (fun i x s hx hs => ?_) (fun s hs => ?_)⟩
  · subst hs
    have hi := (rng_at hx).1
    have hi : i < n := by omega
    have hlen := found_len M (unitOf rows) (i + 1)
    have h6 := pow6 (n := i + 1) (by omega)
    have hfl : ((found A start rows (unitOf rows) i).map conv).flatMap (fun q => (brs A rows (unitOf rows) (conv q)).map conv) = (found A start rows (unitOf rows) (i + 1)).map conv := by
      rw [found_succ, map_flat, List.flatMap_map]
      rfl
    refine WFor_app (f := fun q => (brs A rows (unitOf rows) (conv q)).map conv) (fun q hq s nx hpre hnx => ?_) (by rw [List.nil_append]; exact hfl)
    obtain ⟨x, hx, ex⟩ := List.mem_map.mp hq
    subst ex
    obtain ⟨h0, h1⟩ := foundStates M _ i x hx
    obtain ⟨r, ha, er, hr⟩ := M.at_ h0 h1
    have hrow := M.rw_.row r hr
    refine ⟨r, ha, by rw [hrow.len, sl_eq]; have := M.al.le; omega, ⟨(M.tots r hr).1, tot_lt M hr⟩, ?_⟩
    have eb : (brs A rows (unitOf rows) (conv (conv x))).map conv = ((signs A).zip r).flatMap fun p => if decide (0 < p.2.1) = true then [(x.1 ++ p.1, x.2.2 * p.2.1 * (unitOf rows / tot r), p.2.2)] else [] := by
      rw [flat_if]
      show (brs A rows (unitOf rows) x).map conv = _
      unfold brs
      rw [er, List.map_map]
      rfl
    rw [List.nil_append, hfl] at hpre
    rw [eb] at hpre hnx
    refine WFor_app (f := fun p : Str × Int × Int => if decide (0 < p.2.1) = true then [(x.1 ++ p.1, x.2.2 * p.2.1 * (unitOf rows / tot r), p.2.2)] else []) (fun p hp s' nx' hpre' hnx' => ?_) hnx
    refine Jn_by (fun v => v = s' ++ if decide (0 < p.2.1) = true then [(x.1 ++ p.1, x.2.2 * p.2.1 * (unitOf rows / tot r), p.2.2)] else []) (fun v hv => by rw [hv]; exact hnx') (fun j hj => ?_)
    have hz := List.of_mem_zip (a := p.1) (b := p.2) hp
    have hpp := hpre'.trans hpre
    by_cases hc : decide ((0 : Int) < p.2.1) = true
    · rw [if_pos hc] at hpp hj ⊢
      have hl := hpp.length_le
      have hb := br_ok M (n := i) (by omega) hx hr hz.2
      have hl2 : s'.length < 6 ^ 8 + 1 := by
        rw [List.length_append, List.length_map] at hl
        omega
      have hk : (x.1 ++ p.1) ∉ s'.map (·.1) := by
        have hnd : ((s' ++ [(x.1 ++ p.1, x.2.2 * p.2.1 * (unitOf rows / tot r), p.2.2)]).map (·.1)).Nodup := by
          have q := found_nodup M (unitOf rows) (i + 1)
          rw [← conv_key] at q
          exact (hpp.sublist.map _).nodup q
        rw [List.map_append, List.nodup_append] at hnd
        exact fun hm => hnd.2.2 _ hm (x.1 ++ p.1) (by simp) rfl
      refine ⟨hb.m1, hb.m2, ?_, by rw [sl_eq]; omega, hj _ (put_new hk)⟩
      show x.1.length + p.1.length ≤ _
      rw [found_text M _ i x hx, (sign_mem hz.1).len, sl_eq]
      omega
    · rw [if_neg hc] at hj ⊢
      exact hj _ (List.append_nil _).symm
  · rw [rng_length, Int.toNat_natCast] at hs
    subst hs
    have hlen := found_len M (unitOf rows) n
    have h6 := pow6 hn
    refine ⟨by rw [List.length_map, sl_eq]; omega, ?_⟩
    have e : ((found A start rows (unitOf rows) n).map conv).map (fun x22 => (x22.1, x22.2.1)) = wordsOf A start rows n := by
      rw [List.map_map]; rfl
    rw [e, dictOf_take (words_nodup M n)]
    exact h

/-- the machine as it is made -/
def machOf (A : Str) (start : Int) (rows : List (List (Int × Int))) (n : Nat) : Str × Int × List (List (Int × Int)) × Int × Int × Int × List (Str × Int) := (A, start, rows, (n : Int), unitOf rows, unitOf rows ^ n, wordsOf A start rows n)
theorem p_machine {A : Str} {start : Int} {rows : List (List (Int × Int))} {n : Nat} {k : Str × Int × List (List (Int × Int)) × Int × Int × Int × List (Str × Int) → Prop} (M : MachOk A start rows) (hn : n ≤ 8) (h : k (machOf A start rows n)) : w_Machine___init__ (A, start, rows, (n : Int)) k := by
  unfold w_Machine___init__
  simp only [Bnd]
  refine WLc_by (by rw [sl_eq]; show rows.length < _; have := M.rw_.le; omega) (fun i acc => acc = rows.take i) rfl (fun i x acc hx hI => ?_) (fun acc hI => ?_)
  · have hr := M.rw_.row x (List.mem_of_getElem? hx)
    refine ⟨by rw [hr.len, sl_eq]; have := M.al.le; omega, ?_⟩
    rw [hI, List.take_add_one]
    have e : (x.map fun x4 : Int × Int => (x4.1, x4.2)) = x := List.map_id _
    rw [e]
    congr 1
    rw [hx]; rfl
  · have e : acc = rows := by rw [hI]; exact List.take_of_length_le (Nat.le_refl _)
    subst e
    refine WFor_by (fun i s => s = (A, start, acc, (n : Int), (acc.take i).foldl (fun u r => lcmI u (tot r)) 1)) rfl (fun i x s hx hs => ?_) (fun s hs => ?_)
    · subst hs
      have hm := List.mem_of_getElem? hx
      have hr := M.rw_.row x hm
      have hu := unit_take M i
      refine ⟨by rw [hr.len, sl_eq]; have := M.al.le; omega, p_least hu.1 (M.tots x hm).1 (log_lt (B := 80) (by decide) (Int.le_of_lt hu.1) hu.2) (tot_lt M hm) ?_⟩
      rw [unit_step hx]
      rfl
    · rw [List.take_of_length_le (Nat.le_refl _)] at hs
      subst hs
      exact p_power M.unit_pos M.unit_lt (by omega) (p_all_weights M hn h)

/-- a source as the laws draw it -/
structure SrcOk (d ws : List (Str × Int)) : Prop where
  ne : d ≠ []
  le : d.length ≤ 24
  nd : (d.map (·.1)).Nodup
  w1 : ∀ p ∈ d, 1 ≤ p.2
  wl : ∀ p ∈ d, p.2 < 2 ^ 620
  pm : ws.Perm d
section
variable {d ws : List (Str × Int)}
theorem SrcOk.w0 (g : SrcOk d ws) : ∀ p ∈ d, 0 ≤ p.2 := fun p hp => by have := g.w1 p hp; omega
theorem SrcOk.pos (g : SrcOk d ws) : 1 ≤ (d.map (·.2)).sum := mem_sum_pos g.ne g.w1
theorem SrcOk.lt (g : SrcOk d ws) : (d.map (·.2)).sum < 2 ^ 640 := by
  have h1 := mem_sum_le (B := 2 ^ 620) fun p hp => Int.le_of_lt (g.wl p hp)
  have h2 : (2 : Int) ^ 620 * d.length ≤ 2 ^ 620 * 24 := Int.mul_le_mul_of_nonneg_left (by have := g.le; omega) (by decide)
  have h3 : (2 : Int) ^ 620 * 24 < 2 ^ 640 := by decide
  omega
end
theorem keys_eq {α : Type} (d : List (Str × α)) : keys d = d.map (·.1) := rfl
theorem look_of {α : Type} : ∀ {d : List (Str × α)} {p : Str × α}, (d.map (·.1)).Nodup → p ∈ d → look d p.1 = some p.2
  | [], _, _, h => nomatch h
  | q :: r, p, hn, h => by
    rw [List.map_cons, List.nodup_cons] at hn
    unfold look
    rcases List.mem_cons.mp h with e | e
    · rw [List.find?_cons_of_pos (by rw [e]; simp), e]; rfl
    · rw [List.find?_cons_of_neg (by
        intro hq
        have hq := of_decide_eq_true hq
        exact hn.1 (List.mem_map.mpr ⟨p, e, hq.symm⟩))]
      exact look_of hn.2 e
theorem dict_keys {α β γ : Type} [DecidableEq γ] (f : α → γ) (g : α → β) : ∀ (l : List α) (i : Nat), ((dictOf ((l.take i).map fun x => (f x, g x))).map (·.1)).Nodup ∧ (∀ x, x ∈ (dictOf ((l.take i).map fun x => (f x, g x))).map (·.1) ↔ ∃ t ∈ l.take i, f t = x) ∧ (dictOf ((l.take i).map fun x => (f x, g x))).length ≤ i := by
  intro l i
  induction i with
  | zero => exact ⟨by rw [List.take_zero]; exact .nil, fun x => by rw [List.take_zero]; simp [dictOf], by rw [List.take_zero]; exact Nat.le_refl _⟩
  | succ i ih =>
    obtain ⟨h1, h2, h3⟩ := ih
    by_cases hi : i < l.length
    · have e : dictOf ((l.take (i + 1)).map fun x => (f x, g x)) = putk (dictOf ((l.take i).map fun x => (f x, g x))) (f l[i]) (g l[i]) := by
        rw [List.take_add_one, List.getElem?_eq_getElem hi, List.map_append]
        unfold dictOf
        rw [List.foldl_append]
        rfl
      have el : l.take (i + 1) = l.take i ++ [l[i]] := by rw [List.take_add_one, List.getElem?_eq_getElem hi]; rfl
      have hk : (putk (dictOf ((l.take i).map fun x => (f x, g x))) (f l[i]) (g l[i])).map (·.1) = if f l[i] ∈ (dictOf ((l.take i).map fun x => (f x, g x))).map (·.1) then (dictOf ((l.take i).map fun x => (f x, g x))).map (·.1) else (dictOf ((l.take i).map fun x => (f x, g x))).map (·.1) ++ [f l[i]] := by
        unfold putk
        by_cases hm : f l[i] ∈ (dictOf ((l.take i).map fun x => (f x, g x))).map (·.1)
        · rw [if_pos hm, if_pos]
          · rw [List.map_map]
            refine List.map_congr_left fun kv _ => ?_
            show (if kv.1 = f l[i] then (kv.1, g l[i]) else kv).1 = kv.1
            split <;> rfl
          · rw [List.any_eq_true]
            obtain ⟨kv, hkv, e⟩ := List.mem_map.mp hm
            exact ⟨kv, hkv, decide_eq_true e⟩
        · rw [if_neg hm, if_neg]
          · rw [List.map_append]; rfl
          · rw [List.any_eq_true]
            rintro ⟨kv, hkv, e⟩
            exact hm (List.mem_map.mpr ⟨kv, hkv, of_decide_eq_true e⟩)
      rw [e, el]
      refine ⟨?_, fun x => ?_, Nat.le_trans (put_len _ _ _) (by omega)⟩
      · rw [hk]
        split
        · exact h1
        · rename_i hm
          rw [List.nodup_append]
          exact ⟨h1, by simp, fun a ha b hb e => hm (by rw [List.mem_singleton] at hb; rw [← hb, ← e]; exact ha)⟩
      · rw [hk]
        split
        · rename_i hm
          rw [h2]
          constructor
          · rintro ⟨t, ht, e⟩; exact ⟨t, List.mem_append_left _ ht, e⟩
          · rintro ⟨t, ht, e⟩
            rcases List.mem_append.mp ht with ht | ht
            · exact ⟨t, ht, e⟩
            · rw [List.mem_singleton] at ht
              subst ht
              subst e
              exact (h2 _).mp hm
        · rw [List.mem_append, h2]
          constructor
          · rintro (⟨t, ht, e⟩ | e)
            · exact ⟨t, List.mem_append_left _ ht, e⟩
            · rw [List.mem_singleton] at e
              exact ⟨l[i], List.mem_append_right _ (List.mem_singleton.mpr rfl), e.symm⟩
          · rintro ⟨t, ht, e⟩
            rcases List.mem_append.mp ht with ht | ht
            · exact .inl ⟨t, ht, e⟩
            · rw [List.mem_singleton] at ht
              subst ht
              exact .inr (List.mem_singleton.mpr e.symm)
    · have e : l.take (i + 1) = l.take i := by rw [List.take_of_length_le (by omega), List.take_of_length_le (by omega)]
      rw [e]
      exact ⟨h1, h2, by omega⟩
--skip _law_words _law_source
/-! ### the law k14 -/
theorem p_words14 {A : Str} {start : Int} {rows : List (List (Int × Int))} {n : Nat} {L : Int} {k : List (Str × Int) → Prop} (M : MachOk A start rows) (hn : n ≤ 8) (h : k (wordsOf A start rows n)) : w_law_words ((A, start, rows, L), (n : Int)) k := by
  unfold w_law_words
  simp only [Bnd]
  refine WFor_by (fun i s => s = (rows.take i).foldl (fun u r => lcmI u (tot r)) 1) rfl (fun i x s hx hs => ?_) (fun s hs => ?_)
  · have hm := List.mem_of_getElem? hx
    have hr := M.rw_.row x hm
    have ht := M.tots x hm
    have hu := unit_take M i
    rw [← hs] at hu
    have ht2 := tot_lt M hm
    have hu2 := log_lt (B := 80) (by decide) (Int.le_of_lt hu.1) hu.2
    refine ⟨by rw [hr.len, sl_eq]; have := M.al.le; omega, ?_⟩
    show CMulW s (tot x) ∧ _
    refine ⟨by show _ + _ < 1000000; omega, ?_⟩
    have ea : s = ((s.natAbs : Nat) : Int) := by omega
    have eb : tot x = (((tot x).natAbs : Nat) : Int) := by omega
    have q := p_law_gcd (a := s.natAbs) (b := (tot x).natAbs) (k := fun r8 => CDivW (s * tot x) r8 ∧ (s * tot x) / r8 = (rows.take (i + 1)).foldl (fun u r => lcmI u (tot r)) 1) hu2 ht2 ?_
    · rw [← ea, ← eb] at q
      exact q
    · refine ⟨⟨gcd_pos' hu.1, ?_⟩, ?_⟩
      · refine Nat.lt_of_le_of_lt (log2_mono ?_) hu2
        rw [Int.natAbs_natCast]
        exact Nat.gcd_le_left _ (by omega)
      · rw [lcmI_eq, unit_step hx, hs]
  · rw [List.take_of_length_le (Nat.le_refl _)] at hs
    have hs : s = unitOf rows := hs
    subst hs
    refine ⟨by omega, WFor_by (fun i s => s = found A start rows (unitOf rows) i) rfl (fun i x s hx hs => ?_) (fun s hs => ?_)⟩
    · subst hs
      have hi := (rng_at hx).1
      have hi : i < n := by omega
      have hlen := found_len M (unitOf rows) (i + 1)
      have h6 := pow6 (n := i + 1) (by omega)
      refine WFor_app (f := brs A rows (unitOf rows)) (fun x hx s nx hpre hnx => ?_) rfl
      obtain ⟨h0, h1⟩ := foundStates M _ i x hx
      obtain ⟨r, ha, er, hr⟩ := M.at_ h0 h1
      have hrow := M.rw_.row r hr
      refine ⟨r, ha, by rw [hrow.len, sl_eq]; have := M.al.le; omega, r, ha, ?_⟩
      have eb : brs A rows (unitOf rows) x = ((signs A).zip r).flatMap fun p => if decide (0 < p.2.1) = true then [(x.1 ++ p.1, p.2.2, x.2.2 * p.2.1 * (unitOf rows / tot r))] else [] := by
        rw [flat_if]; unfold brs; rw [er]
      rw [eb] at hpre hnx
      refine WFor_app (f := fun p : Str × Int × Int => if decide (0 < p.2.1) = true then [(x.1 ++ p.1, p.2.2, x.2.2 * p.2.1 * (unitOf rows / tot r))] else []) (fun p hp s' nx' hpre' hnx' => ?_) hnx
      refine Jn_by (fun v => v = s' ++ if decide (0 < p.2.1) = true then [(x.1 ++ p.1, p.2.2, x.2.2 * p.2.1 * (unitOf rows / tot r))] else []) (fun v hv => by rw [hv]; exact hnx') (fun j hj => ?_)
      have hz := List.of_mem_zip (a := p.1) (b := p.2) hp
      have hl := (hpre'.trans hpre).length_le
      by_cases hc : decide ((0 : Int) < p.2.1) = true
      · rw [if_pos hc] at hl hj ⊢
        have hb := br_ok M (n := i) (by omega) hx hr hz.2
        have hl2 : s'.length < 6 ^ 8 + 1 := by
          rw [List.length_append] at hl
          rw [List.nil_append] at hl
          have : (found A start rows (unitOf rows) (i + 1)).length = ((found A start rows (unitOf rows) i).flatMap (brs A rows (unitOf rows))).length := rfl
          omega
        refine ⟨?_, hb.m1, hb.d1, hb.m2, by rw [sl_eq]; omega, hj _ rfl⟩
        rw [found_text M _ i x hx, (sign_mem hz.1).len, sl_eq]
        omega
      · rw [if_neg hc] at hj ⊢
        exact hj _ (List.append_nil _).symm
    · rw [rng_length, Int.toNat_natCast] at hs
      subst hs
      have hlen := found_len M (unitOf rows) n
      have h6 := pow6 hn
      exact ⟨by rw [sl_eq]; omega, h⟩
theorem found_len2 {A : Str} {start : Int} {rows : List (List (Int × Int))} {U : Int} {c : Nat} (h : A.length ≤ c) : ∀ n, (found A start rows U n).length ≤ c ^ n
  | 0 => by rw [Nat.pow_zero]; exact Nat.le_refl _
  | n + 1 => by
    have hb : ∀ x, (brs A rows U x).length ≤ c := fun x => by
      unfold brs
      rw [List.length_map]
      refine Nat.le_trans (List.length_filter_le _ _) ?_
      rw [List.length_zip, signs_len]
      omega
    have h1 := flat_len hb (found A start rows U n)
    have h2 := Nat.mul_le_mul_left c (found_len2 (start := start) (rows := rows) (U := U) h n)
    rw [Nat.pow_succ, Nat.mul_comm]
    exact Nat.le_trans h1 h2
theorem p_law_spec {k : Str × Int × List (List (Int × Int)) × Int → Prop} (h : ∀ A start rows (n : Nat), MachOk A start rows → A.length ≤ 3 → n ≤ 3 → k (A, start, rows, (n : Int))) : w_law_spec () k := by
  unfold w_law_spec
  simp only [Bnd]
  refine draw_by (by decide) fun r1 a0 a1 => ?_
  refine Jn_by (fun s4 : Int => 1 ≤ s4 ∧ s4 ≤ 3) (fun s4 ⟨s0, s1⟩ => ?_) (fun j hj => draw_by (by decide) fun r3 b0 b1 => ?_)
  · refine draw_by (by decide) fun r5 c0 c1 => ⟨by omega, ?_⟩
    have hmany : ((1 + r5).toNat : Int) = 1 + r5 := by omega
    refine WFor_by (fun i s => s.length = i ∧ ∀ r ∈ s, RowOk s4.toNat (1 + r5).toNat r) ⟨rfl, (fun r h => nomatch h)⟩ (fun i x s hx ⟨i1, i2⟩ => ?_) (fun s ⟨i1, i2⟩ => ?_)
    · have hi := (rng_at hx).1
      refine ⟨by omega, WLc_by (by rw [rng_length, sl_eq]; omega) (fun i s => s.length = i ∧ ∀ p ∈ s, (0 ≤ p.1 ∧ p.1 ≤ 1000) ∧ 0 ≤ p.2 ∧ p.2 < 1 + r5) ⟨rfl, (fun r h => nomatch h)⟩ (fun i' x' s' hx' ⟨j1, j2⟩ => ?_) (fun row ⟨j1, j2⟩ => ?_)⟩
      · refine draw_by (by decide) fun r13 d0 d1 => draw_by (by omega) fun r14 e0 e1 => ⟨by rw [List.length_append]; show s'.length + 1 = _; omega, fun p hp => ?_⟩
        rcases List.mem_append.mp hp with hp | hp
        · exact j2 p hp
        · rw [List.mem_singleton] at hp; rw [hp]; exact ⟨⟨d0, by show r13 ≤ 1000; omega⟩, e0, by show r14 < _; omega⟩
      · rw [rng_length] at j1
        refine Jn_by (fun s25 : List (Int × Int) => RowOk s4.toNat (1 + r5).toNat s25) (fun s25 hs => ?_) (fun j hj => ⟨by rw [sl_eq]; omega, ?_⟩)
        · refine ⟨by rw [sl_eq]; omega, by rw [List.length_append]; show s.length + 1 = _; omega, fun r hr => ?_⟩
          rcases List.mem_append.mp hr with hr | hr
          · exact i2 r hr
          · rw [List.mem_singleton] at hr; rw [hr]; exact hs
        · split
          · refine draw_by (by decide) fun r23 d0 d1 => draw_by (by omega) fun r24 e0 e1 => ?_
            refine ⟨r24.toNat, ?_, ?_⟩
            · unfold ixN
              rw [if_pos e0, if_pos (by omega)]
            · have hlt : r24.toNat < row.length := by omega
              have hmem : ∀ p ∈ row.set r24.toNat (1 + r23, 1 + r5 - 1), (0 ≤ p.1 ∧ p.1 ≤ 1000) ∧ 0 ≤ p.2 ∧ p.2 < 1 + r5 := fun p hp => by
                rcases List.mem_or_eq_of_mem_set hp with hp | hp
                · exact j2 p hp
                · rw [hp]
                  exact ⟨⟨by show 0 ≤ 1 + r23; omega, by show 1 + r23 ≤ 1000; omega⟩, by show 0 ≤ 1 + r5 - 1; omega, by show 1 + r5 - 1 < _; omega⟩
              refine hj _ ⟨by rw [List.length_set]; exact j1, fun p hp => (hmem p hp).1, fun p hp => by have := (hmem p hp).2; omega, ?_⟩
              exact sum_pos_of (fun p hp => (hmem p hp).1.1) (List.mem_set hlt _) (by show 0 < 1 + r23; omega)
          · rename_i hc
            refine hj _ ⟨j1, fun p hp => (j2 p hp).1, fun p hp => by have := (j2 p hp).2; omega, ?_⟩
            have h1 := sum_nonneg fun p hp => (j2 p hp).1.1
            have h2 : ¬ (row.map fun x19 => x19.1).sum = 0 := fun e => hc (decide_eq_true e)
            have h3 : (row.map fun x19 => x19.1) = row.map (·.1) := rfl
            rw [h3] at h2
            omega
    · rw [rng_length] at i1
      refine draw_by (by decide) fun r27 d0 d1 => ?_
      have hA : AlphaOk (cutS ("abc" : Str) none (some s4)) ∧ (cutS ("abc" : Str) none (some s4)).length = s4.toNat := by
        have : s4 = 1 ∨ s4 = 2 ∨ s4 = 3 := by omega
        rcases this with e | e | e <;> subst e
        · exact ⟨⟨by unfold Asc; decide, by decide, by decide⟩, by decide⟩
        · exact ⟨⟨by unfold Asc; decide, by decide, by decide⟩, by decide⟩
        · exact ⟨⟨by unfold Asc; decide, by decide, by decide⟩, by decide⟩
      refine Jn_by (fun s30 : Int => 0 ≤ s30 ∧ s30 ≤ 3) (fun s30 ⟨e0, e1⟩ => ⟨by decide, draw_by (by omega) fun start f0 f1 => ?_⟩) (fun j hj => draw_by (by decide) fun r29 e0 e1 => ?_)
      · have hM : MachOk (cutS ("abc" : Str) none (some s4)) start s := ⟨hA.1, ⟨fun e => by rw [e] at i1; simp at i1; omega, by omega, by rw [hA.2, i1]; exact i2⟩, f0, by omega⟩
        have en : s30 = ((s30.toNat : Nat) : Int) := by omega
        rw [en]
        exact h _ _ _ _ hM (by rw [hA.2]; omega) (by omega)
      · split
        · exact hj _ (by decide)
        · exact hj _ ⟨by omega, by omega⟩
  · split
    · exact hj _ (by decide)
    · exact hj _ ⟨by omega, by omega⟩
theorem p_law_source {k : (List (Str × Int) × Int) × List (Str × Int) → Prop} (h : ∀ d ws, SrcOk d ws → k ((d, (d.map (·.2)).sum), ws)) : w_law_source 24 k := by
  unfold w_law_source
  simp only [Bnd]
  refine draw_by (by decide) fun r r0 r1 => ?_
  split
  · refine p_law_spec fun A start rows n M hA hn => ⟨by decide, ?_⟩
    refine WFor_by (fun i s => ∃ m : Nat, s = (m : Int) ∧ m ≤ 3 ∧ (1 ≤ i → (wordsOf A start rows m).length ≤ 24)) ⟨n, rfl, hn, fun h => absurd h (by decide)⟩ (fun i x s hx ⟨m, es, m3, mi⟩ => ?_) (fun s ⟨m, es, m3, mi⟩ => ?_)
    · subst es
      have small : ∀ q : Nat, q ≤ 2 → (wordsOf A start rows q).length ≤ 24 := fun q hq => by
        rw [words_len]
        have h1 := found_len2 (start := start) (rows := rows) (U := unitOf rows) hA q
        have h2 : 3 ^ q ≤ 3 ^ 2 := Nat.pow_le_pow_right (by decide) hq
        omega
      refine Jn_by (fun s => ∃ m : Nat, s = (m : Int) ∧ m ≤ 3 ∧ (1 ≤ i + 1 → (wordsOf A start rows m).length ≤ 24)) (fun s h => h) (fun j hj => ?_)
      by_cases hm : m = 0
      · subst hm
        rw [if_neg (by decide), if_neg (by decide)]
        exact hj _ ⟨0, rfl, by decide, fun _ => small 0 (by decide)⟩
      · rw [if_pos (decide_eq_true (by omega))]
        refine p_words14 M (by omega) ?_
        split
        · exact hj _ ⟨m - 1, by omega, by omega, fun _ => small _ (by omega)⟩
        · rename_i hc
          have := mt decide_eq_true hc
          exact hj _ ⟨m, rfl, m3, fun _ => by omega⟩
    · subst es
      have h24 := mi (by rw [rng_length]; decide)
      refine p_machine M (by omega) (p_words14 M (by omega) ?_)
      have e : g_Src (machOf A start rows m) = (wordsOf A start rows m, ((wordsOf A start rows m).map (·.2)).sum) := by
        rw [words_sum M m]; rfl
      rw [e]
      exact h _ _ ⟨words_ne M m, h24, words_nodup M m, words_pos M m, words_lt M (by omega), List.Perm.refl _⟩
  · refine p_law_pairs (by decide) (by decide) fun ps g hl => g.tab ?_
    refine h _ _ ⟨g.1, by have := g.2.1; omega, g.2.2.1, fun p hp => (g.2.2.2.1 p hp).1, fun p hp => Int.lt_of_le_of_lt (g.2.2.2.1 p hp).2 (by decide), ?_⟩
    exact List.mergeSort_perm _ _
/-- written parts -/
structure PartsOk (c : Nat) (ps : List (Int × Str)) : Prop where
  ne : ps ≠ []
  le : ps.length ≤ c
  w1 : ∀ p ∈ ps, 1 ≤ p.1
  wl : ∀ p ∈ ps, p.1 < 2 ^ 640
/-- what is written of a text -/
def wr (ps : List (Int × Str)) (t : Str) : Int := ((ps.filter fun p => decide (p.2 = t)).map (·.1)).sum
theorem wr_perm {a b : List (Int × Str)} (h : a.Perm b) (t : Str) : wr a t = wr b t := perm_sum ((h.filter _).map _)
theorem wr_app (a b : List (Int × Str)) (t : Str) : wr (a ++ b) t = wr a t + wr b t := by
  unfold wr
  rw [List.filter_append, List.map_append, List.sum_append]
theorem wr_one (p : Int × Str) (t : Str) : wr [p] t = if p.2 = t then p.1 else 0 := by
  unfold wr
  by_cases h : p.2 = t
  · rw [List.filter_cons_of_pos (by exact decide_eq_true h), if_pos h]; simp
  · rw [List.filter_cons_of_neg (by simpa using h), if_neg h]; simp
theorem wr_nonneg {ps : List (Int × Str)} (h : ∀ p ∈ ps, 1 ≤ p.1) (t : Str) : 0 ≤ wr ps t ∧ wr ps t ≤ (ps.map (·.1)).sum := by
  induction ps with
  | nil => exact ⟨Int.le_refl _, Int.le_refl _⟩
  | cons p ps ih =>
    have h1 := h p (List.mem_cons_self ..)
    have h2 := ih fun q hq => h q (List.mem_cons_of_mem _ hq)
    have e : wr (p :: ps) t = wr [p] t + wr ps t := wr_app [p] ps t
    rw [e, wr_one, List.map_cons, List.sum_cons]
    split <;> omega
/-- of a table's pairs -/
def of (d : List (Str × Int)) (t : Str) : Int := ((d.filter fun p => decide (p.1 = t)).map (·.2)).sum
theorem of_cons (p : Str × Int) (d : List (Str × Int)) (t : Str) : of (p :: d) t = (if p.1 = t then p.2 else 0) + of d t := by
  unfold of
  by_cases h : p.1 = t
  · rw [List.filter_cons_of_pos (by exact decide_eq_true h), if_pos h, List.map_cons, List.sum_cons]
  · rw [List.filter_cons_of_neg (by simpa using h), if_neg h]; omega
theorem look_consS {α : Type} {p : Str × α} {r : List (Str × α)} {t : Str} : look (p :: r) t = if p.1 = t then some p.2 else look r t := by
  unfold look
  by_cases h : p.1 = t
  · rw [List.find?_cons_of_pos (by exact decide_eq_true h), if_pos h]; rfl
  · rw [List.find?_cons_of_neg (by simpa using h), if_neg h]
theorem of_look : ∀ {d : List (Str × Int)}, (d.map (·.1)).Nodup → ∀ t, of d t = (look d t).getD 0
  | [], _, _ => rfl
  | p :: d, h, t => by
    rw [List.map_cons, List.nodup_cons] at h
    rw [of_cons, look_consS, of_look h.2]
    by_cases e : p.1 = t
    · subst e
      rw [if_pos rfl, if_pos rfl, look_none h.1]
      show p.2 + 0 = p.2
      omega
    · rw [if_neg e, if_neg e]; omega
theorem of_perm {a b : List (Str × Int)} (h : a.Perm b) (t : Str) : of a t = of b t := perm_sum ((h.filter _).map _)
theorem sum_le_n {B : Int} : ∀ {l : List Int}, (∀ x ∈ l, x ≤ B) → l.sum ≤ B * l.length
  | [], _ => by simp
  | x :: l, h => by
    have := sum_le_n (l := l) fun y hy => h y (List.mem_cons_of_mem _ hy)
    have := h x (List.mem_cons_self ..)
    rw [List.sum_cons, List.length_cons, show ((l.length + 1 : Nat) : Int) = (l.length : Int) + 1 by omega, Int.mul_add]
    omega
theorem rev_list {α : Type} {xs : List α} {k : List α → Prop} (hl : xs.length < 1000) (h : k xs.reverse) : WLc (rng 0 ((xs.length : Nat) : Int).toNat) (fun _ kk => kk true) (fun x kk => ∃ y, atI xs (((xs.length : Nat) : Int) - 1 - x) = some y ∧ kk y) k := by
  refine WLc_by (by rw [rng_length, sl_eq]; omega) (fun i acc => acc = (xs.reverse).take i) rfl (fun i x acc hx hI => ?_) (fun acc hI => ?_)
  · obtain ⟨hi, ex⟩ := rng_at hx
    have hi : i < xs.length := by omega
    obtain ⟨y, hy, ha⟩ := atI_lt (xs := xs) (i := ((xs.length : Nat) : Int) - 1 - x) (by omega) (by omega)
    refine ⟨y, ha, ?_⟩
    show acc ++ [y] = _
    rw [hI, List.take_add_one]
    congr 1
    rw [List.getElem?_reverse hi]
    have : xs.length - 1 - i = (((xs.length : Nat) : Int) - 1 - x).toNat := by omega
    rw [this, hy]
    rfl
  · rw [rng_length, Int.toNat_natCast] at hI
    rw [hI, List.take_of_length_le (by rw [List.length_reverse]; exact Nat.le_refl _)]
    exact h
theorem cutA_up {α : Type} (xs : List α) {i : Int} (h0 : 0 ≤ i) : cutA xs none (some i) = xs.take i.toNat := by
  have e : i = ((i.toNat : Nat) : Int) := by omega
  unfold cutA
  rw [e, HT.sIx_nat, HT.sIx_none, List.drop_zero, Nat.sub_zero, Int.toNat_natCast]
  by_cases h : i.toNat ≤ xs.length
  · rw [Nat.min_eq_left h]
  · rw [Nat.min_eq_right (by omega), List.take_of_length_le (Nat.le_refl _), List.take_of_length_le (by omega)]
theorem cutA_from {α : Type} (xs : List α) {i : Int} (h0 : 0 ≤ i) : cutA xs (some i) none = xs.drop i.toNat := by
  have e : i = ((i.toNat : Nat) : Int) := by omega
  unfold cutA
  rw [e, HT.sIx_nat, HT.sIx_none, Int.toNat_natCast]
  by_cases h : i.toNat ≤ xs.length
  · rw [Nat.min_eq_left h, List.take_of_length_le (by rw [List.length_drop]; exact Nat.le_refl _)]
  · rw [Nat.min_eq_right (by omega), Nat.sub_self, List.take_zero, List.drop_of_length_le (by omega)]
theorem cutA_rot {α : Type} (xs : List α) {i : Int} (h0 : 0 ≤ i) : (cutA xs (some i) none ++ cutA xs none (some i)).Perm xs := by
  rw [cutA_up xs h0, cutA_from xs h0]
  conv => rhs; rw [← List.take_append_drop i.toNat xs]
  exact List.perm_append_comm
theorem p_law_split {d ws : List (Str × Int)} (g : SrcOk d ws) {k : List (Int × Str) → Prop} (h : ∀ ps f, PartsOk 48 ps → 1 ≤ f → (∀ t, wr ps t = f * of ws t) → (ps.map (·.1)).sum = f * (d.map (·.2)).sum → k ps) : w_law_split ws k := by
  unfold w_law_split
  simp only [Bnd]
  have hlw := g.pm.length_eq
  have hle := g.le
  have hne : ws ≠ [] := fun e => g.ne (by rw [e] at hlw; exact List.length_eq_zero_iff.mp hlw.symm)
  have hw1 : ∀ p ∈ ws, 1 ≤ p.2 ∧ p.2 < 2 ^ 620 := fun p hp => ⟨g.w1 p (g.pm.mem_iff.mp hp), g.wl p (g.pm.mem_iff.mp hp)⟩
  refine draw_by (by decide) fun r1 a0 a1 => ?_
  have hf : 1 ≤ 1 + r1 ∧ 1 + r1 ≤ 3 := by omega
  generalize 1 + r1 = f at hf
  refine WFor_by (fun i s => s.length ≤ 2 * i ∧ (1 ≤ i → s ≠ []) ∧ (∀ p ∈ s, 1 ≤ p.1 ∧ p.1 < 2 ^ 640) ∧ (∀ t, wr s t = f * of (ws.take i) t) ∧ (s.map (·.1)).sum = f * ((ws.take i).map (·.2)).sum) ⟨Nat.le_refl _, fun h => absurd h (by decide), (fun p h => nomatch h), fun t => by simp [wr, of], by simp⟩ (fun i x s hx ⟨i1, i2, i3, i4, i5⟩ => ?_) (fun s ⟨i1, i2, i3, i4, i5⟩ => ?_)
  · have hi : i < ws.length := (List.getElem?_eq_some_iff.mp hx).1
    obtain ⟨x1, x2⟩ := hw1 x (List.mem_of_getElem? hx)
    have e640 : (2 : Int) ^ 620 * 3 < 2 ^ 640 := by decide
    have ht1 : 1 ≤ x.2 * f := by
      have := Int.mul_pos (show 0 < x.2 by omega) (show 0 < f by omega)
      omega
    have ht2 : x.2 * f < 2 ^ 640 := by
      have h1 : x.2 * f ≤ 2 ^ 620 * 3 := Int.mul_le_mul (Int.le_of_lt x2) hf.2 (by omega) (by decide)
      omega
    have htk : ws.take (i + 1) = ws.take i ++ [x] := by rw [List.take_add_one, hx]; rfl
    refine ⟨cmul_of 640 8 (by have e : (2 : Int) ^ 640 = ((2 ^ 640 : Nat) : Int) := by simp
                              have : x.2 < 2 ^ 640 := Int.lt_trans x2 (by decide)
                              rw [e] at this
                              omega) (by omega) (by decide), ?_⟩
    generalize hT : x.2 * f = T at ht1 ht2
    have hof : ∀ t, f * of (ws.take (i + 1)) t = f * of (ws.take i) t + if x.1 = t then T else 0 := fun t => by
      have e : of (ws.take i ++ [x]) t = of (ws.take i) t + of [x] t := by
        unfold of
        rw [List.filter_append, List.map_append, List.sum_append]
      rw [htk, e, of_cons, Int.mul_add]
      have z : of ([] : List (Str × Int)) t = 0 := rfl
      rw [z]
      split
      · rw [← hT, Int.mul_comm x.2, Int.add_zero]
      · simp
    have hsum : f * ((ws.take (i + 1)).map (·.2)).sum = f * ((ws.take i).map (·.2)).sum + T := by
      rw [htk, List.map_append, List.sum_append, Int.mul_add]
      congr 1
      rw [← hT, Int.mul_comm f]
      simp
    refine Jn_by (fun s11 : Int => 1 ≤ s11 ∧ s11 ≤ T) (fun s11 ⟨b0, b1⟩ => ⟨by rw [sl_eq]; omega, ?_⟩) (fun j hj => draw_by (by decide) fun r10 c0 c1 => ?_)
    · refine Jn_by (fun s' : List (Int × Str) => s'.length ≤ 2 * (i + 1) ∧ (1 ≤ i + 1 → s' ≠ []) ∧ (∀ p ∈ s', 1 ≤ p.1 ∧ p.1 < 2 ^ 640) ∧ (∀ t, wr s' t = f * of (ws.take (i + 1)) t) ∧ (s'.map (·.1)).sum = f * ((ws.take (i + 1)).map (·.2)).sum) (fun s' h => h) (fun j hj => ?_)
      split
      · rename_i hc
        have hc := of_decide_eq_true hc
        refine ⟨by rw [List.length_append, sl_eq]; show s.length + 1 < _; omega, hj _ ⟨by rw [List.length_append, List.length_append]; show s.length + 1 + 1 ≤ _; omega, fun _ => by simp, fun p hp => ?_, fun t => ?_, ?_⟩⟩
        · rcases List.mem_append.mp hp with hp | hp
          · rcases List.mem_append.mp hp with hp | hp
            · exact i3 p hp
            · rw [List.mem_singleton] at hp; rw [hp]; exact ⟨b0, by show s11 < _; omega⟩
          · rw [List.mem_singleton] at hp; rw [hp]; exact ⟨by show 1 ≤ T - s11; omega, by show T - s11 < _; omega⟩
        · rw [wr_app, wr_app, wr_one, wr_one, i4, hof]
          show f * of (ws.take i) t + (if x.1 = t then s11 else 0) + (if x.1 = t then T - s11 else 0) = _
          split <;> omega
        · rw [List.map_append, List.sum_append, List.map_append, List.sum_append, i5, hsum]
          simp
          omega
      · rename_i hc
        have hc : ¬ s11 < T := fun h => hc (decide_eq_true h)
        refine hj _ ⟨by rw [List.length_append]; show s.length + 1 ≤ _; omega, fun _ => by simp, fun p hp => ?_, fun t => ?_, ?_⟩
        · rcases List.mem_append.mp hp with hp | hp
          · exact i3 p hp
          · rw [List.mem_singleton] at hp; rw [hp]; exact ⟨b0, by show s11 < _; omega⟩
        · rw [wr_app, wr_one, i4, hof]
          show f * of (ws.take i) t + (if x.1 = t then s11 else 0) = _
          split <;> omega
        · rw [List.map_append, List.sum_append, i5, hsum]
          simp
          omega
    · split
      · refine p_law_wide fun q q0 q1 => ⟨by omega, hj _ ⟨?_, ?_⟩⟩
        · have := Int.emod_nonneg q (show T ≠ 0 by omega); omega
        · have := Int.emod_lt_of_pos q (show 0 < T by omega); omega
      · exact hj _ ⟨ht1, Int.le_refl _⟩
  · rw [List.take_of_length_le (Nat.le_refl _)] at i4 i5
    have hs0 := i2 (by have := List.length_pos_iff.mpr hne; omega)
    have hsp := List.length_pos_iff.mpr hs0
    have hsum : (ws.map (·.2)).sum = (d.map (·.2)).sum := perm_sum (g.pm.map _)
    rw [hsum] at i5
    refine draw_by (by omega) fun turn t0 t1 => ?_
    have hrot := cutA_rot s t0
    have hl := hrot.length_eq
    rw [List.length_append] at hl
    refine ⟨by rw [sl_eq]; omega, ?_⟩
    generalize cutA s (some turn) none ++ cutA s none (some turn) = q at hrot
    have hq : ∀ ps : List (Int × Str), ps.Perm s → k ps := fun ps hp => by
      refine h ps f ⟨fun e => hs0 (by rw [e] at hp; exact hp.symm.eq_nil), by rw [hp.length_eq]; omega, fun p hm => (i3 p (hp.mem_iff.mp hm)).1, fun p hm => (i3 p (hp.mem_iff.mp hm)).2⟩ hf.1 (fun t => by rw [wr_perm hp, i4]) ?_
      rw [perm_sum (hp.map _), i5]
    refine Jn_by (fun s' : List (Int × Str) => s'.Perm s) (fun s' hp => hq s' hp) (fun j hj => draw_by (by decide) fun r22 c0 c1 => ?_)
    split
    · refine ⟨by have := hrot.length_eq; omega, rev_list (by have := hrot.length_eq; omega) (hj _ ?_)⟩
      exact (List.reverse_perm q).trans hrot
    · exact hj _ hrot
structure PartsB (c : Nat) (B : Int) (ps : List (Int × Str)) : Prop where
  ne : ps ≠ []
  le : ps.length ≤ c
  w : ∀ p ∈ ps, 1 ≤ p.1 ∧ p.1 < B
theorem PartsB.set {c : Nat} {B : Int} {ps : List (Int × Str)} (P : PartsB c B ps) {i : Nat} {q : Int × Str} (h : 1 ≤ q.1 ∧ q.1 < B) : PartsB c B (ps.set i q) :=
  ⟨fun e => P.ne (by have := congrArg List.length e; rw [List.length_set] at this; exact List.length_eq_zero_iff.mp this), by rw [List.length_set]; exact P.le, fun p hp => by
    rcases List.mem_or_eq_of_mem_set hp with hp | hp
    · exact P.w p hp
    · rw [hp]; exact h⟩
theorem PartsB.up {c c2 : Nat} {B B2 : Int} {ps : List (Int × Str)} (P : PartsB c B ps) (h1 : c ≤ c2) (h2 : B ≤ B2) : PartsB c2 B2 ps := ⟨P.ne, Nat.le_trans P.le h1, fun p hp => ⟨(P.w p hp).1, by have := (P.w p hp).2; omega⟩⟩
theorem p_law_changed {c : Nat} {B : Int} {ps : List (Int × Str)} {t : Str} (P : PartsB c B ps) (hc : c ≤ 60) (hB : 2 ≤ B) {k : List (Int × Str) → Prop} (h : ∀ qs, PartsB (c + 1) (B + 2) qs → k qs) : w_law_changed (ps, t) k := by
  unfold w_law_changed
  simp only [Bnd]
  have hpos : 0 < ps.length := List.length_pos_iff.mpr P.ne
  have hle := P.le
  refine draw_by (by decide) fun kind k0 k1 => draw_by (by show ((ps.length : Int)).natAbs < _; omega) fun a a0 a1 => draw_by (by show ((ps.length : Int)).natAbs < _; omega) fun b b0 b1 => ?_
  have a1 : a < max (ps.length : Int) 1 := a1
  have b1 : b < max (ps.length : Int) 1 := b1
  obtain ⟨x, hx, xa⟩ := atI_lt (xs := ps) a0 (by omega)
  obtain ⟨y, hy, ya⟩ := atI_lt (xs := ps) b0 (by omega)
  have wx := P.w x (List.mem_of_getElem? hx)
  have wy := P.w y (List.mem_of_getElem? hy)
  have ia : ixN ps.length a = some a.toNat := by unfold ixN; rw [if_pos a0, if_pos (by omega)]
  have la : (cutA ps none (some a)).length ≤ ps.length := by rw [cutA_up ps a0, List.length_take]; omega
  have lb : (cutA ps (some (a + 1)) none).length ≤ ps.length := by rw [cutA_from ps (by omega), List.length_drop]; omega
  have lb0 : (cutA ps (some a) none).length ≤ ps.length := by rw [cutA_from ps a0, List.length_drop]; omega
  refine Jn_by (PartsB (c + 1) (B + 2)) h (fun j hj => ?_)
  split
  · exact ⟨x, xa, x, xa, a.toNat, ia, hj _ ((P.up (Nat.le_succ c) (by omega)).set (by show 1 ≤ x.1 + 1 ∧ x.1 + 1 < _; omega))⟩
  · refine Jn_by (PartsB (c + 1) (B + 2)) hj (fun j hj => ?_)
    split
    · exact ⟨x, xa, y, ya, a.toNat, ia, hj _ ((P.up (Nat.le_succ c) (by omega)).set (by show 1 ≤ x.1 ∧ x.1 < _; omega))⟩
    · refine Jn_by (PartsB (c + 1) (B + 2)) hj (fun j hj => ?_)
      split
      · rename_i hc2
        rw [Bool.and_eq_true] at hc2
        have h2 : (1 : Int) < (ps.length : Int) := of_decide_eq_true hc2.2
        refine ⟨by rw [sl_eq]; show (cutA ps none (some a)).length + (cutA ps (some (a + 1)) none).length ≤ _; omega, hj _ ⟨fun e => ?_, ?_, fun p hp => ?_⟩⟩
        · have := congrArg List.length e
          rw [List.length_append] at this
          change (cutA ps none (some a)).length + (cutA ps (some (a + 1)) none).length = 0 at this
          rw [cutA_up ps a0, cutA_from ps (by omega), List.length_take, List.length_drop] at this
          omega
        · rw [List.length_append]
          show (cutA ps none (some a)).length + (cutA ps (some (a + 1)) none).length ≤ _
          rw [cutA_up ps a0, cutA_from ps (by omega), List.length_take, List.length_drop]
          omega
        · have hm : p ∈ ps := by
            rcases List.mem_append.mp hp with hp | hp
            · have hp : p ∈ cutA ps none (some a) := hp
              rw [cutA_up ps a0] at hp
              exact List.mem_of_mem_take hp
            · have hp : p ∈ cutA ps (some (a + 1)) none := hp
              rw [cutA_from ps (by omega)] at hp
              exact List.mem_of_mem_drop hp
          have := P.w p hm
          omega
      · refine Jn_by (PartsB (c + 1) (B + 2)) hj (fun j hj => ?_)
        split
        · refine ⟨by rw [sl_eq]; show (cutA ps none (some a)).length + 1 ≤ _; omega, by rw [sl_eq, List.length_append]; show (cutA ps none (some a)).length + 1 + (cutA ps (some a) none).length ≤ _; omega, hj _ ⟨by simp, ?_, fun p hp => ?_⟩⟩
          · rw [List.length_append, List.length_append]
            show (cutA ps none (some a)).length + 1 + (cutA ps (some a) none).length ≤ _
            rw [cutA_up ps a0, cutA_from ps a0, List.length_take, List.length_drop]
            omega
          · rcases List.mem_append.mp hp with hp | hp
            · rcases List.mem_append.mp hp with hp | hp
              · have hp : p ∈ cutA ps none (some a) := hp
                rw [cutA_up ps a0] at hp
                have := P.w p (List.mem_of_mem_take hp)
                omega
              · rw [List.mem_singleton] at hp; rw [hp]; show (1 : Int) ≤ 1 ∧ (1 : Int) < _; omega
            · have hp : p ∈ cutA ps (some a) none := hp
              rw [cutA_from ps a0] at hp
              have := P.w p (List.mem_of_mem_drop hp)
              omega
        · refine Jn_by (PartsB (c + 1) (B + 2)) hj (fun j hj => ?_)
          split
          · have P2 : PartsB c B (ps.set a.toNat (max 1 (x.1 - 1), x.2)) := P.set (by show 1 ≤ max 1 (x.1 - 1) ∧ max 1 (x.1 - 1) < _; omega)
            obtain ⟨y2, hy2, ya2⟩ := atI_lt (xs := ps.set a.toNat (max 1 (x.1 - 1), x.2)) b0 (by rw [List.length_set]; omega)
            have wy2 := P2.w y2 (List.mem_of_getElem? hy2)
            have ib : ixN (ps.set a.toNat (max 1 (x.1 - 1), x.2)).length b = some b.toNat := by unfold ixN; rw [if_pos b0, if_pos (by rw [List.length_set]; omega)]
            exact ⟨x, xa, x, xa, a.toNat, ia, y2, ya2, y2, ya2, b.toNat, ib, hj _ ((P2.up (Nat.le_succ c) (by omega)).set (by show 1 ≤ y2.1 + 1 ∧ y2.1 + 1 < _; omega))⟩
          · exact hj _ (P.up (Nat.le_succ c) (by omega))
/-- the marking of parts -/
def entsOf (f : Str → List Str) (ps : List (Int × Str)) : List (Int × Str × List Str) := ps.map fun p => (p.1, p.2, f p.2)
theorem p_marking {es : List (Int × Str × List Str)} {k : List (Int × Str × List Str) × Int → Prop} (hl : es.length ≤ 100) (hp : ∀ e ∈ es, 1 ≤ e.1) (h : k (es.map (fun e => (e.1, e.2.1, sortS e.2.2)), (es.map (·.1)).sum)) : w_Marking___init__ es k := by
  unfold w_Marking___init__
  simp only [Bnd]
  refine WFor_by (fun i s => s = ((es.take i).map (fun e => (e.1, e.2.1, sortS e.2.2)), ((es.take i).map (·.1)).sum)) rfl (fun i x s hx hs => ?_) (fun s hs => ?_)
  · obtain ⟨e, he, ee⟩ := enumA_at hx
    subst ee
    subst hs
    have hi : i < es.length := (List.getElem?_eq_some_iff.mp he).1
    have h1 := hp e (List.mem_of_getElem? he)
    rw [if_neg (by show ¬ ((!true) || (false || decide (e.1 < 1))) = true; rw [decide_eq_false (by omega)]; decide)]
    refine ⟨by show ((es.take i).map _).length < _; rw [List.length_map, List.length_take, sl_eq]; omega, ?_⟩
    rw [List.take_add_one, he, List.map_append, List.map_append, List.sum_append]
    show (_, _) = (_, _)
    congr 1
    simp
  · rw [enumA_length, List.take_of_length_le (Nat.le_refl _)] at hs
    subst hs
    exact h
theorem WFor_find {α : Type} {xs : List α} {P : α → Bool} {wb : (Unit → Prop) → Unit → α → Prop} {k : Option α → Prop} (hb : ∀ x ∈ xs, ∀ nx : Unit → Prop, (P x = true → k (some x)) → (P x = false → nx ()) → wb nx () x) (h : k (xs.find? P)) : WFor xs () wb (fun _ => k none) := by
  refine WFor_by (fun i _ => (xs.take i).find? P = none) rfl (fun i x s hx hI => hb x (List.mem_of_getElem? hx) _ (fun hp => ?_) (fun hp => ?_)) (fun s hI => ?_)
  · have e : xs.find? P = some x := by
      have hi := (List.getElem?_eq_some_iff.mp hx).1
      conv => lhs; rw [← List.take_append_drop i xs]
      rw [List.find?_append, hI, List.drop_eq_getElem_cons hi, (List.getElem?_eq_some_iff.mp hx).2, List.find?_cons_of_pos hp]
      rfl
    rw [← e]; exact h
  · show (xs.take (i + 1)).find? P = none
    rw [List.take_add_one, hx, List.find?_append, hI]
    show ([x] : List α).find? P = none
    rw [List.find?_cons_of_neg (by rw [hp]; decide)]; rfl
  · rw [List.take_of_length_le (Nat.le_refl _)] at hI
    rw [hI] at h
    exact h
/-- the first text, ascending, for which P holds -/
def IsFirst (mem : Str → Prop) (P : Str → Bool) : Option Str → Prop
  | none => ∀ x, mem x → P x = false
  | some x => mem x ∧ P x = true ∧ ∀ y, mem y → P y = true → leS x y = true
theorem first_find {P : Str → Bool} : ∀ {l : List Str}, l.Pairwise (fun a b => leS a b = true) → IsFirst (· ∈ l) P (l.find? P)
  | [], _ => fun x hx => nomatch hx
  | x :: l, hs => by
    have hs := List.pairwise_cons.mp hs
    cases hp : P x with
    | true =>
      rw [List.find?_cons_of_pos hp]
      refine ⟨List.mem_cons_self .., hp, fun y hy _ => ?_⟩
      rcases List.mem_cons.mp hy with e | e
      · rw [e]; exact leS_iff.mpr (List.le_refl _)
      · exact hs.1 y e
    | false =>
      rw [List.find?_cons_of_neg (by rw [hp]; decide)]
      have ih := first_find (P := P) hs.2
      cases hf : l.find? P with
      | none =>
        rw [hf] at ih
        intro y hy
        rcases List.mem_cons.mp hy with e | e
        · rw [e]; exact hp
        · exact ih y e
      | some z =>
        rw [hf] at ih
        refine ⟨List.mem_cons_of_mem _ ih.1, ih.2.1, fun y hy hpy => ?_⟩
        rcases List.mem_cons.mp hy with e | e
        · rw [e, hp] at hpy; cases hpy
        · exact ih.2.2 y e hpy
theorem first_uniq {m1 m2 : Str → Prop} {P1 P2 : Str → Bool} (hm : ∀ x, m1 x ↔ m2 x) (hP : ∀ x, m1 x → P1 x = P2 x) : ∀ {a b : Option Str}, IsFirst m1 P1 a → IsFirst m2 P2 b → a = b
  | none, none, _, _ => rfl
  | none, some y, h1, h2 => by
    have q := (hm y).mpr h2.1
    have := h1 y q
    rw [hP y q, h2.2.1] at this
    cases this
  | some x, none, h1, h2 => by
    have := h2 x ((hm x).mp h1.1)
    rw [← hP x h1.1, h1.2.1] at this
    cases this
  | some x, some y, h1, h2 => by
    have qy := (hm y).mpr h2.1
    have a1 := h1.2.2 y qy (by rw [hP y qy]; exact h2.2.1)
    have a2 := h2.2.2 x ((hm x).mp h1.1) (by rw [← hP x h1.1]; exact h1.2.1)
    rw [leS_anti a1 a2]
theorem shr_iff {o1 u1 o2 u2 : Int} (h1 : 0 < u1) (h2 : 0 < u2) : shr o1 u1 = shr o2 u2 ↔ o1 * u2 = o2 * u1 := by
  refine ⟨fun e => ?_, shr_eq h1 h2⟩
  have e1 := shr_cross (o1 := o1) (o2 := o2) h1 h2
  have e2 := shr_cross (o1 := o2) (o2 := o1) h2 h1
  rw [← e1, ← e2, e, Int.mul_comm (shG o2 u2)]
theorem look_put {α : Type} (d : List (Str × α)) (s t : Str) (v : α) : look (put d s v) t = if s = t then some v else look d t := by
  unfold put
  by_cases h : (d.any fun kv => decide (kv.1 = s)) = true
  · rw [if_pos h]
    rw [List.any_eq_true] at h
    induction d with
    | nil => obtain ⟨x, hx, _⟩ := h; cases hx
    | cons p d ih =>
      rw [List.map_cons, look_consS, look_consS]
      by_cases hp : p.1 = s
      · rw [if_pos hp]
        show (if p.1 = t then some v else _) = _
        rw [hp]
        by_cases e : s = t
        · rw [if_pos e, if_pos e]
        · rw [if_neg e, if_neg e, if_neg e]
          by_cases h2 : ∃ x ∈ d, decide (x.1 = s) = true
          · rw [ih h2, if_neg e]
          · have : d.map (fun kv => if kv.1 = s then (kv.1, v) else kv) = d := by
              have : d.map (fun kv => if kv.1 = s then (kv.1, v) else kv) = d.map id := List.map_congr_left fun x hx => by
                by_cases hxs : x.1 = s
                · exact absurd ⟨x, hx, decide_eq_true hxs⟩ h2
                · rw [if_neg hxs]; rfl
              rw [this, List.map_id]
            rw [this]
      · rw [if_neg hp]
        have h2 : ∃ x ∈ d, decide (x.1 = s) = true := by
          obtain ⟨x, hx, hxs⟩ := h
          rcases List.mem_cons.mp hx with e | e
          · rw [e] at hxs; exact absurd (of_decide_eq_true hxs) hp
          · exact ⟨x, e, hxs⟩
        rw [ih h2]
        by_cases e : s = t
        · subst e
          rw [if_pos rfl, if_neg hp, if_pos rfl]
        · rw [if_neg e, if_neg e]
  · rw [if_neg h]
    have hn : ∀ x ∈ d, ¬ x.1 = s := fun x hx e => h (List.any_eq_true.mpr ⟨x, hx, decide_eq_true e⟩)
    clear h
    induction d with
    | nil => rw [List.nil_append, look_consS]
    | cons p d ih =>
      rw [List.cons_append, look_consS, look_consS, ih fun x hx => hn x (List.mem_cons_of_mem _ hx)]
      have := hn p (List.mem_cons_self ..)
      by_cases e : s = t
      · subst e; rw [if_neg this, if_pos rfl, if_pos rfl]
      · rw [if_neg e, if_neg e]
theorem keys_put {α : Type} (d : List (Str × α)) (s x : Str) (v : α) : x ∈ keys (put d s v) ↔ x = s ∨ x ∈ keys d := by
  rw [keys_eq, keys_eq]
  unfold put
  by_cases h : (d.any fun kv => decide (kv.1 = s)) = true
  · rw [if_pos h]
    have e : (d.map fun kv => if kv.1 = s then (kv.1, v) else kv).map (·.1) = d.map (·.1) := by
      rw [List.map_map]
      refine List.map_congr_left fun kv _ => ?_
      show (if kv.1 = s then (kv.1, v) else kv).1 = kv.1
      split <;> rfl
    rw [e]
    refine ⟨.inr, fun h2 => h2.elim (fun e => ?_) id⟩
    obtain ⟨kv, hkv, hs⟩ := List.any_eq_true.mp h
    rw [e]
    exact List.mem_map.mpr ⟨kv, hkv, of_decide_eq_true hs⟩
  · rw [if_neg h, List.map_append, List.mem_append]
    simp [or_comm]
theorem put_le {α : Type} (d : List (Str × α)) (s : Str) (v : α) : (put d s v).length ≤ d.length + 1 := by
  unfold put
  split
  · rw [List.length_map]; omega
  · rw [List.length_append]; exact Nat.le_refl _
/-- the text is not written with its share -/
def badT (d : List (Str × Int)) (ps : List (Int × Str)) (t : Str) : Bool := !decide (((look d t).getD 0) * (ps.map (·.1)).sum = wr ps t * (d.map (·.2)).sum)
theorem p_law_seen {d ws : List (Str × Int)} (g : SrcOk d ws) {c : Nat} {B : Int} {ps : List (Int × Str)} (P : PartsB c B ps) (hc : c ≤ 100) (hB : B ≤ 2 ^ 641) {k : Option Str → Prop} (h : ∀ r, IsFirst (fun t => t ∈ keys d ∨ t ∈ ps.map (·.2)) (badT d ps) r → k r) : w_law_seen (ws, ps) k := by
  unfold w_law_seen
  simp only [Bnd]
  have hlw := g.pm.length_eq
  have hle := g.le
  have hpl := P.le
  have hsum : (ws.map fun x => x.2).sum = (d.map (·.2)).sum := perm_sum (g.pm.map _)
  have hndw : (ws.map (·.1)).Nodup := (g.pm.map (·.1)).nodup_iff.mpr g.nd
  have hlook : ∀ t, (look ws t).getD 0 = (look d t).getD 0 := fun t => by rw [← of_look hndw, ← of_look g.nd, of_perm g.pm]
  have hpos := g.pos
  have hlt := g.lt
  have hps := sum_le_n (B := 2 ^ 641) (l := ps.map (·.1)) fun x hx => by
    obtain ⟨p, hp, e⟩ := List.mem_map.mp hx
    have := (P.w p hp).2
    rw [← e]; omega
  rw [List.length_map] at hps
  have hps2 : (2 : Int) ^ 641 * ps.length ≤ 2 ^ 641 * 100 := Int.mul_le_mul_of_nonneg_left (by omega) (by decide)
  have hps3 : (2 : Int) ^ 641 * 100 < 2 ^ 700 := by decide
  have e700 : (2 : Int) ^ 700 = ((2 ^ 700 : Nat) : Int) := by simp
  have e640 : (2 : Int) ^ 640 < 2 ^ 700 := by decide
  rw [e700] at hps3 e640
  have hw := fun t => wr_nonneg (fun p hp => (P.w p hp).1) t
  have hl0 : ∀ t, 0 ≤ (look d t).getD 0 ∧ (look d t).getD 0 ≤ (d.map (·.2)).sum := fun t => by
    cases e : look d t with
    | none => exact ⟨by decide, by show (0 : Int) ≤ _; omega⟩
    | some v =>
      have hm := look_mem e
      have h1 := g.w1 _ hm
      have h2 : v ∈ d.map (·.2) := List.mem_map.mpr ⟨_, hm, rfl⟩
      have z : ∀ l : List Int, (∀ x ∈ l, 0 ≤ x) → v ∈ l → v ≤ l.sum := by
        intro l
        induction l with
        | nil => intro _ h; cases h
        | cons y l ih =>
          intro h hv
          have hy := h y (List.mem_cons_self ..)
          have hs : 0 ≤ l.sum := by
            have : ∀ k : List Int, (∀ x ∈ k, 0 ≤ x) → 0 ≤ k.sum := by
              intro k
              induction k with
              | nil => intro _; exact Int.le_refl _
              | cons a k ih2 =>
                intro h
                have := h a (List.mem_cons_self ..)
                have := ih2 fun b hb => h b (List.mem_cons_of_mem _ hb)
                rw [List.sum_cons]; omega
            exact this l fun x hx => h x (List.mem_cons_of_mem _ hx)
          rw [List.sum_cons]
          rcases List.mem_cons.mp hv with e | e
          · omega
          · have := ih (fun x hx => h x (List.mem_cons_of_mem _ hx)) e; omega
      exact ⟨by show 0 ≤ v; have h1 : 1 ≤ v := h1; omega, z _ (fun x hx => by obtain ⟨q, hq, e⟩ := List.mem_map.mp hx; have := g.w1 q hq; omega) h2⟩
  refine ⟨by show ws.length < _; rw [sl_eq]; omega, by show ps.length < _; rw [sl_eq]; omega, ?_⟩
  refine WFor_by (fun i s => s = ws.take i) rfl (fun i x s hx hs => ?_) (fun s5 hs5 => ?_)
  · subst hs
    have hi : i < ws.length := (List.getElem?_eq_some_iff.mp hx).1
    refine ⟨by rw [List.length_take, sl_eq]; omega, ?_⟩
    have hm : x.1 ∉ (ws.take i).map (·.1) := by
      rw [List.map_take]
      exact nodup_at hndw (by rw [List.getElem?_map, hx]; rfl)
    show put (ws.take i) x.1 x.2 = ws.take (i + 1)
    rw [put_new hm, List.take_add_one, hx]
    rfl
  · have hs5 : s5 = ws := by rw [hs5]; exact List.take_of_length_le (Nat.le_refl _)
    subst hs5
    refine WFor_by (fun i s => (∀ t, (look s t).getD 0 = wr (ps.take i) t) ∧ (∀ t, t ∈ keys s ↔ t ∈ (ps.take i).map (·.2)) ∧ s.length ≤ i) ⟨fun t => rfl, fun t => by simp [keys], Nat.le_refl _⟩ (fun i x s hx ⟨j1, j2, j3⟩ => ?_) (fun s10 ⟨j1, j2, j3⟩ => ?_)
    · have hi : i < ps.length := (List.getElem?_eq_some_iff.mp hx).1
      have htk : ps.take (i + 1) = ps.take i ++ [x] := by rw [List.take_add_one, hx]; rfl
      refine ⟨by rw [sl_eq]; omega, fun t => ?_, fun t => ?_, by have := put_le s x.2 (((look s x.2).getD 0) + x.1); omega⟩
      · rw [look_put, htk, wr_app, wr_one]
        by_cases e : x.2 = t
        · rw [if_pos e, if_pos e, ← e, ← j1 x.2]; rfl
        · rw [if_neg e, if_neg e, j1 t]; omega
      · rw [keys_put, j2, htk, List.map_append, List.mem_append]
        simp [or_comm]
    · rw [List.take_of_length_le (Nat.le_refl _)] at j1 j2
      have hkl : (keys s10).length = s10.length := by rw [keys_eq, List.length_map]
      refine ⟨by show s5.length < _; rw [sl_eq]; omega, by rw [List.length_map, hkl, sl_eq]; show s5.length + _ ≤ _; omega, ?_⟩
      refine WFor_find (P := badT d ps) (fun t ht nx h1 h2 => ?_) (h _ ?_)
      · show CMulW ((look s5 t).getD 0) (ps.map (·.1)).sum ∧ (CMulW ((look s10 t).getD 0) (s5.map fun x => x.2).sum ∧ (if (!decide (((look s5 t).getD 0) * (ps.map (·.1)).sum = ((look s10 t).getD 0) * (s5.map fun x => x.2).sum)) = true then k (some t) else nx ()))
        rw [hlook, j1, hsum]
        have a1 := hl0 t
        have a2 := hw t
        refine ⟨cmul_of 700 700 (by omega) (by omega) (by decide), cmul_of 700 700 (by omega) (by omega) (by decide), ?_⟩
        split
        · rename_i hc; exact h1 hc
        · rename_i hc; exact h2 (by simpa [badT] using hc)
      · have q := first_find (P := badT d ps) (sortS_pw ((s5.map fun x15 => x15.1) ++ keys s10))
        revert q
        generalize (sortS ((s5.map fun x15 => x15.1) ++ keys s10)).find? (badT d ps) = r
        intro q
        have hmm : ∀ t, t ∈ sortS ((s5.map fun x15 => x15.1) ++ keys s10) ↔ t ∈ keys d ∨ t ∈ ps.map (·.2) := fun t => by
          rw [(sortS_perm _).mem_iff, List.mem_append, j2 t, keys_eq, (g.pm.map (·.1)).mem_iff]
        cases r with
        | none => exact fun x hx => q x ((hmm x).mpr hx)
        | some z => exact ⟨(hmm z).mp q.1, q.2.1, fun y hy hp => q.2.2 y ((hmm y).mpr hy) hp⟩
theorem p_seen_at {d ws : List (Str × Int)} (g : SrcOk d ws) {c : Nat} {B : Int} {ps : List (Int × Str)} (P : PartsB c B ps) (hc : c ≤ 100) (hB : B ≤ 2 ^ 641) {es : List (Int × Str × List Str)} (he : es.map (fun e => (e.1, e.2.1)) = ps) {k : Option Str → Prop}
    (h : ∀ r, IsFirst (fun t => t ∈ keys d ∨ t ∈ ps.map (·.2)) (badT d ps) r → k r) : w_seen_at ((d, (d.map (·.2)).sum), es, (es.map (·.1)).sum) k := by
  unfold w_seen_at w_Table_texts w_Marking_texts w_Marking_written_share w_Table_share_of w_Table_weight_of w_Share___eq__
  simp only [Bnd]
  have hle := g.le
  have hpl := P.le
  have hel : es.length = ps.length := by rw [← he, List.length_map]
  have hks : (sortS (keys d)).length = d.length := by rw [(sortS_perm _).length_eq, keys_eq, List.length_map]
  have htx : es.map (fun x1 => x1.2.1) = ps.map (·.2) := by rw [← he, List.map_map]; rfl
  have hwt : es.map (·.1) = ps.map (·.1) := by rw [← he, List.map_map]; rfl
  have hul := uniq_len (ps.map (·.2))
  rw [List.length_map] at hul
  have hsl : (sortS (uniq (ps.map (·.2)))).length ≤ ps.length := by rw [(sortS_perm _).length_eq]; exact hul
  rw [htx, hwt]
  have hpos := g.pos
  have hlt := g.lt
  have e700 : (2 : Int) ^ 700 = ((2 ^ 700 : Nat) : Int) := by simp
  have e640 : (2 : Int) ^ 640 < 2 ^ 700 := by decide
  rw [e700] at e640
  have hps := sum_le_n (B := 2 ^ 641) (l := ps.map (·.1)) fun x hx => by
    obtain ⟨p, hp, e⟩ := List.mem_map.mp hx
    have := (P.w p hp).2
    rw [← e]; omega
  rw [List.length_map] at hps
  have hps2 : (2 : Int) ^ 641 * ps.length ≤ 2 ^ 641 * 100 := Int.mul_le_mul_of_nonneg_left (by omega) (by decide)
  have hps3 : (2 : Int) ^ 641 * 100 < 2 ^ 700 := by decide
  rw [e700] at hps3
  have hps1 : 1 ≤ (ps.map (·.1)).sum := by
    have : ∀ l : List (Int × Str), l ≠ [] → (∀ p ∈ l, 1 ≤ p.1) → 1 ≤ (l.map (·.1)).sum := by
      intro l
      induction l with
      | nil => intro h; exact absurd rfl h
      | cons p l ih =>
        intro _ h
        have h1 := h p (List.mem_cons_self ..)
        rw [List.map_cons, List.sum_cons]
        cases l with
        | nil => simp; omega
        | cons q r => have := ih (by simp) fun x hx => h x (List.mem_cons_of_mem _ hx); omega
    exact this ps P.ne fun p hp => (P.w p hp).1
  have hwr : ∀ t, ((es.filter fun x1 => decide (x1.2.1 = t)).map fun x1 => x1.1).sum = wr ps t := fun t => by
    unfold wr
    rw [← he, List.filter_map, List.map_map]
    rfl
  refine ⟨by show es.length < _; rw [sl_eq]; omega, by rw [List.length_map]; show ps.length + 1 < 4096; omega, by rw [hks, sl_eq]; omega, by rw [List.length_append, hks, sl_eq]; omega, ?_⟩
  refine WFor_find (P := badT d ps) (fun t ht nx h1 h2 => ?_) (h _ ?_)
  · refine ⟨by show es.length < _; rw [sl_eq]; omega, ?_⟩
    show w_Share___init__ (((es.filter fun x1 => decide (x1.2.1 = t)).map fun x1 => x1.1).sum, (ps.map (·.1)).sum) _
    rw [hwr]
    refine p_share (by omega) (log_abs (B := 700) (by omega) (by decide)) (p_share (by show 0 < (d.map (·.2)).sum; omega) (log_abs (B := 700) (show ((d.map fun p : Str × Int => p.2).sum).natAbs < 2 ^ 700 by omega) (by decide)) ?_)
    have ee : (true && ((decide ((shr (wr ps t) (ps.map (·.1)).sum).1 = (shr ((look d t).getD 0) (d.map (·.2)).sum).1)) && (decide ((shr (wr ps t) (ps.map (·.1)).sum).2 = (shr ((look d t).getD 0) (d.map (·.2)).sum).2)))) = !badT d ps t := by
      unfold badT
      rw [Bool.not_not, Bool.true_and]
      have hi := shr_iff (o1 := wr ps t) (o2 := (look d t).getD 0) (show 0 < (ps.map (·.1)).sum by omega) (show 0 < (d.map (·.2)).sum by omega)
      rw [Bool.eq_iff_iff, Bool.and_eq_true, decide_eq_true_iff, decide_eq_true_iff, decide_eq_true_iff]
      constructor
      · rintro ⟨a, b⟩
        exact (hi.mp (Prod.ext a b)).symm
      · intro a
        have := hi.mpr a.symm
        exact ⟨congrArg (·.1) this, congrArg (·.2) this⟩
    show if (!(true && ((decide ((shr (wr ps t) (ps.map (·.1)).sum).1 = (shr ((look d t).getD 0) (d.map (·.2)).sum).1)) && (decide ((shr (wr ps t) (ps.map (·.1)).sum).2 = (shr ((look d t).getD 0) (d.map (·.2)).sum).2))))) = true then k (some t) else nx ()
    rw [ee, Bool.not_not]
    split
    · rename_i hb; exact h1 hb
    · rename_i hb; exact h2 (by simpa using hb)
  · obtain ⟨q1, q2, q3⟩ := dict_keys (fun t : Str => t) (fun _ => true) (sortS (keys d) ++ sortS (uniq (ps.map (·.2)))) (sortS (keys d) ++ sortS (uniq (ps.map (·.2)))).length
    rw [List.take_of_length_le (Nat.le_refl _)] at q2
    have q := first_find (P := badT d ps) (sortS_pw (keys (dictOf ((sortS (keys d) ++ sortS (uniq (ps.map (·.2)))).map fun x3 => (x3, true)))))
    revert q
    generalize (sortS (keys (dictOf ((sortS (keys d) ++ sortS (uniq (ps.map (·.2)))).map fun x3 => (x3, true))))).find? (badT d ps) = r
    intro q
    have hmm : ∀ t, t ∈ sortS (keys (dictOf ((sortS (keys d) ++ sortS (uniq (ps.map (·.2)))).map fun x3 => (x3, true)))) ↔ t ∈ keys d ∨ t ∈ ps.map (·.2) := fun t => by
      rw [(sortS_perm _).mem_iff, keys_eq, q2]
      constructor
      · rintro ⟨z, hz, e⟩
        subst e
        rcases List.mem_append.mp hz with h | h
        · exact .inl ((sortS_perm _).mem_iff.mp h)
        · exact .inr (uniq_mem.mp ((sortS_perm _).mem_iff.mp h))
      · rintro (h | h)
        · exact ⟨t, List.mem_append_left _ ((sortS_perm _).mem_iff.mpr h), rfl⟩
        · exact ⟨t, List.mem_append_right _ ((sortS_perm _).mem_iff.mpr (uniq_mem.mpr h)), rfl⟩
    cases r with
    | none => exact fun x hx => q x ((hmm x).mpr hx)
    | some z => exact ⟨(hmm z).mp q.1, q.2.1, fun y hy hp => q.2.2 y ((hmm y).mpr hy) hp⟩
theorem law_true (ns : List Int) (hl : ns.length ≤ 63) : w_law ns (fun b => b = true) := by
  unfold w_law w_law_body w_law_start
  simp only [Bnd]
  refine ⟨⟨Int.le_refl _, Int.le_refl _, (by decide : (0 : Int) ≤ 7), (by decide : (7 : Int) < 2147483647)⟩, p_law_source fun d0 ws0 g0 => ?_⟩
  refine Jn_by (fun s : List (Str × Int) × (List (Str × Int) × Int) => ∃ d, SrcOk d s.1 ∧ s.2 = (d, (d.map (·.2)).sum)) (fun s ⟨d, g, es⟩ => ?_) (fun j hj => ?_)
  · obtain ⟨ws, src⟩ := s
    subst es
    refine p_law_split g fun ps f hP hf hwr hsum => p_law_text (by decide) (by decide) fun t ht => ?_
    have P0 : PartsB 48 (2 ^ 640) ps := ⟨hP.ne, hP.le, fun p hp => ⟨hP.w1 p hp, hP.wl p hp⟩⟩
    refine p_law_changed P0 (by decide) (by decide) fun qs Q => ?_
    refine Jn_by (fun s : List (Int × Str) => PartsB 50 (2 ^ 640 + 4) s) (fun qs Q => ?_) (fun j hj => ?_)
    · have hpl := P0.le
      have hql := Q.le
      have hpw : ∀ e ∈ ps.map (fun x14 => (x14.1, x14.2, [x14.2])), 1 ≤ e.1 := fun e he => by obtain ⟨p, hp, ee⟩ := List.mem_map.mp he; rw [← ee]; exact (P0.w p hp).1
      have hqw : ∀ e ∈ qs.map (fun x17 => (x17.1, x17.2, ([] : List Str))), 1 ≤ e.1 := fun e he => by obtain ⟨p, hp, ee⟩ := List.mem_map.mp he; rw [← ee]; exact (Q.w p hp).1
      refine ⟨by rw [sl_eq]; omega, p_marking (by rw [List.length_map]; omega) hpw ⟨by rw [sl_eq]; omega, p_marking (by rw [List.length_map]; omega) hqw ?_⟩⟩
      have hB : (2 : Int) ^ 640 + 4 ≤ 2 ^ 641 := by decide
      have hB2 : (2 : Int) ^ 640 ≤ 2 ^ 641 := by decide
      refine p_law_seen g Q (by decide) hB fun due hdue => ⟨by decide, WFor_by (fun _ _ => True) trivial (fun i x s hx _ => ?_) (fun _ _ => trivial)⟩
      have hm1 : ((ps.map (fun x14 => (x14.1, x14.2, [x14.2]))).map (fun e => (e.1, e.2.1, sortS e.2.2))).map (fun e => (e.1, e.2.1)) = ps := by
        rw [List.map_map, List.map_map]
        exact List.map_id _
      have hm2 : ((qs.map (fun x17 => (x17.1, x17.2, ([] : List Str)))).map (fun e => (e.1, e.2.1, sortS e.2.2))).map (fun e => (e.1, e.2.1)) = qs := by
        rw [List.map_map, List.map_map]
        exact List.map_id _
      have hs1 : (((ps.map (fun x14 => (x14.1, x14.2, [x14.2]))).map (fun e => (e.1, e.2.1, sortS e.2.2))).map (·.1)).sum = ((ps.map (fun x14 => (x14.1, x14.2, [x14.2]))).map (·.1)).sum := by
        rw [List.map_map]; rfl
      have hs2 : (((qs.map (fun x17 => (x17.1, x17.2, ([] : List Str)))).map (fun e => (e.1, e.2.1, sortS e.2.2))).map (·.1)).sum = ((qs.map (fun x17 => (x17.1, x17.2, ([] : List Str)))).map (·.1)).sum := by
        rw [List.map_map]; rfl
      have c1 := p_seen_at g P0 (by decide) hB2 hm1 (k := fun r26 => if (!(r26).isNone) = true then (if true = true then false = true else True) else w_seen_at ((d, (d.map (·.2)).sum), (qs.map (fun x17 => (x17.1, x17.2, ([] : List Str)))).map (fun e => (e.1, e.2.1, sortS e.2.2)), ((qs.map (fun x17 => (x17.1, x17.2, ([] : List Str)))).map (·.1)).sum) (fun r27 => w_law_is_at (r27, due) (fun r28 => if (!r28) = true then false = true else True))) ?_
      · rw [hs1] at c1
        exact c1
      · intro r hr
        have e : r = none := by
          cases r with
          | none => rfl
          | some z =>
            exfalso
            have hb := hr.2.1
            unfold badT at hb
            rw [hwr z, hsum] at hb
            have e1 : (look d z).getD 0 = of ws z := by rw [← of_look g.nd, ← of_perm g.pm]
            rw [e1, decide_eq_true (by grind)] at hb
            cases hb
        subst e
        rw [if_neg (by decide)]
        have c2 := p_seen_at g Q (by decide) hB hm2 (k := fun r27 => w_law_is_at (r27, due) (fun r28 => if (!r28) = true then false = true else True)) ?_
        · rw [hs2] at c2
          exact c2
        · intro r2 hr2
          have e2 : r2 = due := first_uniq (fun _ => Iff.rfl) (fun _ _ => rfl) hr2 hdue
          subst e2
          unfold w_law_is_at
          cases r2 with
          | none => exact trivial
          | some z =>
            show if (!((some z).isSome && decide (some z = some z))) = true then false = true else True
            rw [if_neg (by simp)]
            trivial
    · refine draw_by (by decide) fun r12 c0 c1 => ?_
      split
      · exact p_law_changed Q (by decide) (by decide) fun qs2 Q2 => hj _ (Q2.up (by decide) (by decide))
      · exact hj _ (Q.up (by decide) (by decide))
  · have hlw := g0.pm.length_eq
    have hle := g0.le
    have hne : ws0 ≠ [] := fun e => g0.ne (by rw [e] at hlw; exact List.length_eq_zero_iff.mp hlw.symm)
    refine ⟨by show ws0.length < _; rw [sl_eq]; omega, by simpa using hne, ?_⟩
    split
    · refine WLc_by (by show ws0.length < _; rw [sl_eq]; omega) (fun i acc => acc = (ws0.take i).map fun x => (x.1, 1 + x.2 % 100000000000000000000)) rfl (fun i x acc hx hI => ⟨by decide, ?_⟩) (fun acc hI => ?_)
      · rw [hI, List.take_add_one, hx, List.map_append]
        rfl
      · have hI : acc = ws0.map fun x => (x.1, 1 + x.2 % 100000000000000000000) := by rw [hI]; congr 1; exact List.take_of_length_le (Nat.le_refl _)
        subst hI
        have hnd : ((ws0.map fun x => (x.1, 1 + x.2 % 100000000000000000000)).map (·.1)).Nodup := by
          rw [List.map_map]
          exact (g0.pm.map (·.1)).nodup_iff.mpr g0.nd
        have hw : ∀ p ∈ ws0.map fun x => (x.1, 1 + x.2 % 100000000000000000000), 1 ≤ p.2 ∧ p.2 < 2 ^ 620 := fun p hp => by
          obtain ⟨x, hx, e⟩ := List.mem_map.mp hp
          rw [← e]
          have a1 := Int.emod_nonneg x.2 (show (100000000000000000000 : Int) ≠ 0 by decide)
          have a2 := Int.emod_lt_of_pos x.2 (show (0 : Int) < 100000000000000000000 by decide)
          have a3 : (100000000000000000000 : Int) + 1 < 2 ^ 620 := by decide
          show 1 ≤ 1 + x.2 % 100000000000000000000 ∧ 1 + x.2 % 100000000000000000000 < _
          omega
        refine p_table (by rw [List.length_map]; omega) hnd (fun p hp => (hw p hp).1) (hj _ ⟨_, ⟨by simpa using hne, by rw [List.length_map]; omega, hnd, fun p hp => (hw p hp).1, fun p hp => (hw p hp).2, List.Perm.refl _⟩, rfl⟩)
    · exact hj _ ⟨d0, g0, rfl⟩
end Zk
set_option maxHeartbeats 0
namespace Zk
open PySem PySem.Spec L2
/-! ### the head -/
def dd (c : Str × Option Str) (n q : Str) (s : Stmt) : He.DefD := ⟨c, n, q, defArgs s, defBody s, defScope s, [], []⟩
def fn : List He.DefD := [dd ("Marking", some "__init__") "__init__" "Marking.__init__" s_Marking___init__, dd ("_is_integer", none) "_is_integer" "_is_integer" s_is_integer, dd ("Table", some "__init__") "__init__" "Table.__init__" s_Table___init__, dd ("_law_draw", none) "_law_draw" "_law_draw" s_law_draw, dd ("_law_changed", none) "_law_changed" "_law_changed" s_law_changed, dd ("_law_is_at", none) "_law_is_at" "_law_is_at" s_law_is_at, dd ("_law_seen", none) "_law_seen" "_law_seen" s_law_seen, dd ("Machine", some "all_weights") "all_weights" "Machine.all_weights" s_Machine_all_weights, dd ("greatest_divisor", none) "greatest_divisor" "greatest_divisor" s_greatest_divisor, dd ("least_multiple", none) "least_multiple" "least_multiple" s_least_multiple, dd ("power", none) "power" "power" s_power, dd ("Machine", some "__init__") "__init__" "Machine.__init__" s_Machine___init__, dd ("_law_signs", none) "_law_signs" "_law_signs" s_law_signs, dd ("_law_text", none) "_law_text" "_law_text" s_law_text, dd ("_law_texts", none) "_law_texts" "_law_texts" s_law_texts, dd ("_law_wide", none) "_law_wide" "_law_wide" s_law_wide, dd ("_law_weight", none) "_law_weight" "_law_weight" s_law_weight, dd ("_law_pairs", none) "_law_pairs" "_law_pairs" s_law_pairs, dd ("_law_spec", none) "_law_spec" "_law_spec" s_law_spec, dd ("_law_gcd", none) "_law_gcd" "_law_gcd" s_law_gcd, dd ("_law_words", none) "_law_words" "_law_words" s_law_words, dd ("_law_source", none) "_law_source" "_law_source" s_law_source, dd ("_law_split", none) "_law_split" "_law_split" s_law_split, dd ("_law_start", none) "_law_start" "_law_start" s_law_start, dd ("Machine", some "weight_of") "weight_of" "Machine.weight_of" s_Machine_weight_of, dd ("Share", some "__init__") "__init__" "Share.__init__" s_Share___init__, dd ("Machine", some "share_of") "share_of" "Machine.share_of" s_Machine_share_of, dd ("Machine", some "texts") "texts" "Machine.texts" s_Machine_texts, dd ("Marking", some "texts") "texts" "Marking.texts" s_Marking_texts, dd ("Marking", some "written_share") "written_share" "Marking.written_share" s_Marking_written_share, dd ("Share", some "__eq__") "__eq__" "Share.__eq__" s_Share___eq__, dd ("Table", some "weight_of") "weight_of" "Table.weight_of" s_Table_weight_of, dd ("Table", some "share_of") "share_of" "Table.share_of" s_Table_share_of, dd ("Table", some "texts") "texts" "Table.texts" s_Table_texts, dd ("seen_at", none) "seen_at" "seen_at" s_seen_at, dd ("_law_body", none) "_law_body" "_law_body" s_law_body, dd ("law", none) "law" "law" s_law]
def fa : List He.Fa := [.cls "Machine", .cls "Marking", .cls "Share", .cls "Table", .glo "Machine", .glo "Marking", .glo "Share", .glo "Table", .glo "greatest_divisor", .glo "_is_integer", .glo "law", .glo "_law_body", .glo "_law_changed", .glo "_law_draw", .glo "_law_gcd", .glo "_law_is_at", .glo "_law_pairs", .glo "_law_seen", .glo "_law_signs", .glo "_law_source", .glo "_law_spec", .glo "_law_split", .glo "_law_start", .glo "_law_text", .glo "_law_texts", .glo "_law_weight", .glo "_law_wide", .glo "_law_words", .glo "least_multiple", .glo "power", .glo "seen_at", .mkr "Machine", .mkr "Marking", .mkr "Share", .mkr "Table", .free "abs", .free "bool", .free "enumerate", .free "int", .free "isinstance", .free "len", .free "list", .free "max", .free "min", .free "range", .free "set", .free "sorted", .free "str", .free "sum", .free "tuple", .free "zip", .meth "Machine" "all_weights", .meth "Machine" "share_of", .meth "Machine" "texts", .meth "Machine" "weight_of", .meth "Marking" "texts", .meth "Marking" "written_share", .meth "Share" "__eq__", .meth "Table" "share_of", .meth "Table" "texts", .meth "Table" "weight_of", .noat "Machine" "alphabet", .noat "Machine" "length", .noat "Machine" "rows", .noat "Machine" "start", .noat "Machine" "unit", .noat "Machine" "weights", .noat "Machine" "whole", .noat "Marking" "entries", .noat "Marking" "whole", .noat "Share" "over", .noat "Share" "under", .noat "Table" "weights", .noat "Table" "whole"]
abbrev Rw : PySem.W.OpenRow := PySem.W.OpenLaw.row PySem.Challenge.rw_sourcestold_k14_seen_at
def xas : List (PySem.W.Frag → Bool) := [fun K => isiB K "Share", fun K => nekB K "Share"]
def xa (K : PySem.W.Frag) : Bool := xas.all fun f => f K
abbrev hk : PySem.W.Hook := hookX 5 xa fa fn
def ob (s : PySem.W.SharedT) : He.AlD × Bool := obsXG 5 xa fa fn (HandSHeadRun.getT s)
theorem ob_eq (s : PySem.W.SharedT) : ob s = hk.obs s.abs := obsXG_eq (HandSHeadRun.getT_eq s)
def names : List PySem.Str := [("_wall" : PySem.Str), ("__name__" : PySem.Str), ("MarkError" : PySem.Str), ("InvalidNumber" : PySem.Str), ("InvalidPair" : PySem.Str), ("InvalidKey" : PySem.Str), ("greatest_divisor" : PySem.Str), ("least_multiple" : PySem.Str), ("power" : PySem.Str), ("Share" : PySem.Str), ("_is_integer" : PySem.Str), ("_text_at" : PySem.Str), ("Table" : PySem.Str), ("Machine" : PySem.Str), ("_is_below" : PySem.Str), ("Marking" : PySem.Str), ("seen_at" : PySem.Str), ("_law_gcd" : PySem.Str), ("_law_start" : PySem.Str), ("_law_draw" : PySem.Str), ("_law_wide" : PySem.Str), ("_law_signs" : PySem.Str), ("_law_text" : PySem.Str), ("_law_texts" : PySem.Str), ("_law_weight" : PySem.Str), ("_law_pairs" : PySem.Str), ("_law_spec" : PySem.Str), ("_law_words" : PySem.Str), ("_law_source" : PySem.Str), ("_law_split" : PySem.Str), ("_law_changed" : PySem.Str), ("_law_seen" : PySem.Str), ("_law_is_at" : PySem.Str), ("_law_body" : PySem.Str)]
theorem run (w : World) : HandSHeadRun.RunEq Rw (PySem.W.view Rw.prog [40]) hk ob 4000 names w := by
  intro os
  kernel_rfl
theorem txt {K : PySem.W.Frag} {h : Heap} {mg : Str → Option Value} (X : K.In h) (G : h.Ns mainGlobals mg) (c : SaysX xa fa fn K) : Txt K mg where
  f_Marking___init__ := c.1.def_ 0
  f_is_integer := c.1.def_ 1
  f_Table___init__ := c.1.def_ 2
  f_law_draw := c.1.def_ 3
  f_law_changed := c.1.def_ 4
  f_law_is_at := c.1.def_ 5
  f_law_seen := c.1.def_ 6
  f_Machine_all_weights := c.1.def_ 7
  f_greatest_divisor := c.1.def_ 8
  f_least_multiple := c.1.def_ 9
  f_power := c.1.def_ 10
  f_Machine___init__ := c.1.def_ 11
  f_law_signs := c.1.def_ 12
  f_law_text := c.1.def_ 13
  f_law_texts := c.1.def_ 14
  f_law_wide := c.1.def_ 15
  f_law_weight := c.1.def_ 16
  f_law_pairs := c.1.def_ 17
  f_law_spec := c.1.def_ 18
  f_law_gcd := c.1.def_ 19
  f_law_words := c.1.def_ 20
  f_law_source := c.1.def_ 21
  f_law_split := c.1.def_ 22
  f_law_start := c.1.def_ 23
  f_Machine_weight_of := c.1.def_ 24
  f_Share___init__ := c.1.def_ 25
  f_Machine_share_of := c.1.def_ 26
  f_Machine_texts := c.1.def_ 27
  f_Marking_texts := c.1.def_ 28
  f_Marking_written_share := c.1.def_ 29
  f_Share___eq__ := c.1.def_ 30
  f_Table_weight_of := c.1.def_ 31
  f_Table_share_of := c.1.def_ 32
  f_Table_texts := c.1.def_ 33
  f_seen_at := c.1.def_ 34
  f_law_body := c.1.def_ 35
  f_law := c.1.def_ 36
  c_Machine := He.cls_ok (c.1.fact 0 (f := .cls "Machine") rfl)
  c_Marking := He.cls_ok (c.1.fact 1 (f := .cls "Marking") rfl)
  c_Share := He.cls_ok (c.1.fact 2 (f := .cls "Share") rfl)
  c_Table := He.cls_ok (c.1.fact 3 (f := .cls "Table") rfl)
  g_Machine := He.glo_ok X G (c.1.fact 4 (f := .glo "Machine") rfl)
  g_Marking := He.glo_ok X G (c.1.fact 5 (f := .glo "Marking") rfl)
  g_Share := He.glo_ok X G (c.1.fact 6 (f := .glo "Share") rfl)
  g_Table := He.glo_ok X G (c.1.fact 7 (f := .glo "Table") rfl)
  g_greatest_divisor := He.glo_ok X G (c.1.fact 8 (f := .glo "greatest_divisor") rfl)
  g_is_integer := He.glo_ok X G (c.1.fact 9 (f := .glo "_is_integer") rfl)
  g_law := He.glo_ok X G (c.1.fact 10 (f := .glo "law") rfl)
  g_law_body := He.glo_ok X G (c.1.fact 11 (f := .glo "_law_body") rfl)
  g_law_changed := He.glo_ok X G (c.1.fact 12 (f := .glo "_law_changed") rfl)
  g_law_draw := He.glo_ok X G (c.1.fact 13 (f := .glo "_law_draw") rfl)
  g_law_gcd := He.glo_ok X G (c.1.fact 14 (f := .glo "_law_gcd") rfl)
  g_law_is_at := He.glo_ok X G (c.1.fact 15 (f := .glo "_law_is_at") rfl)
  g_law_pairs := He.glo_ok X G (c.1.fact 16 (f := .glo "_law_pairs") rfl)
  g_law_seen := He.glo_ok X G (c.1.fact 17 (f := .glo "_law_seen") rfl)
  g_law_signs := He.glo_ok X G (c.1.fact 18 (f := .glo "_law_signs") rfl)
  g_law_source := He.glo_ok X G (c.1.fact 19 (f := .glo "_law_source") rfl)
  g_law_spec := He.glo_ok X G (c.1.fact 20 (f := .glo "_law_spec") rfl)
  g_law_split := He.glo_ok X G (c.1.fact 21 (f := .glo "_law_split") rfl)
  g_law_start := He.glo_ok X G (c.1.fact 22 (f := .glo "_law_start") rfl)
  g_law_text := He.glo_ok X G (c.1.fact 23 (f := .glo "_law_text") rfl)
  g_law_texts := He.glo_ok X G (c.1.fact 24 (f := .glo "_law_texts") rfl)
  g_law_weight := He.glo_ok X G (c.1.fact 25 (f := .glo "_law_weight") rfl)
  g_law_wide := He.glo_ok X G (c.1.fact 26 (f := .glo "_law_wide") rfl)
  g_law_words := He.glo_ok X G (c.1.fact 27 (f := .glo "_law_words") rfl)
  g_least_multiple := He.glo_ok X G (c.1.fact 28 (f := .glo "least_multiple") rfl)
  g_power := He.glo_ok X G (c.1.fact 29 (f := .glo "power") rfl)
  g_seen_at := He.glo_ok X G (c.1.fact 30 (f := .glo "seen_at") rfl)
  i_Share := isi_ok (He.cls_ok (c.1.fact 2 (f := .cls "Share") rfl)) (List.all_eq_true.mp c.2 _ (List.mem_of_getElem? (i := 0) rfl))
  k_Machine := He.mkr_ok (c.1.fact 31 (f := .mkr "Machine") rfl)
  k_Marking := He.mkr_ok (c.1.fact 32 (f := .mkr "Marking") rfl)
  k_Share := He.mkr_ok (c.1.fact 33 (f := .mkr "Share") rfl)
  k_Table := He.mkr_ok (c.1.fact 34 (f := .mkr "Table") rfl)
  l_abs := He.free_ok X G (c.1.fact 35 (f := .free "abs") rfl)
  l_bool := He.free_ok X G (c.1.fact 36 (f := .free "bool") rfl)
  l_enumerate := He.free_ok X G (c.1.fact 37 (f := .free "enumerate") rfl)
  l_int := He.free_ok X G (c.1.fact 38 (f := .free "int") rfl)
  l_isinstance := He.free_ok X G (c.1.fact 39 (f := .free "isinstance") rfl)
  l_len := He.free_ok X G (c.1.fact 40 (f := .free "len") rfl)
  l_list := He.free_ok X G (c.1.fact 41 (f := .free "list") rfl)
  l_max := He.free_ok X G (c.1.fact 42 (f := .free "max") rfl)
  l_min := He.free_ok X G (c.1.fact 43 (f := .free "min") rfl)
  l_range := He.free_ok X G (c.1.fact 44 (f := .free "range") rfl)
  l_set := He.free_ok X G (c.1.fact 45 (f := .free "set") rfl)
  l_sorted := He.free_ok X G (c.1.fact 46 (f := .free "sorted") rfl)
  l_str := He.free_ok X G (c.1.fact 47 (f := .free "str") rfl)
  l_sum := He.free_ok X G (c.1.fact 48 (f := .free "sum") rfl)
  l_tuple := He.free_ok X G (c.1.fact 49 (f := .free "tuple") rfl)
  l_zip := He.free_ok X G (c.1.fact 50 (f := .free "zip") rfl)
  m_Machine_all_weights := He.meth_ok (c.1.fact 51 (f := .meth "Machine" "all_weights") rfl)
  m_Machine_share_of := He.meth_ok (c.1.fact 52 (f := .meth "Machine" "share_of") rfl)
  m_Machine_texts := He.meth_ok (c.1.fact 53 (f := .meth "Machine" "texts") rfl)
  m_Machine_weight_of := He.meth_ok (c.1.fact 54 (f := .meth "Machine" "weight_of") rfl)
  m_Marking_texts := He.meth_ok (c.1.fact 55 (f := .meth "Marking" "texts") rfl)
  m_Marking_written_share := He.meth_ok (c.1.fact 56 (f := .meth "Marking" "written_share") rfl)
  m_Share___eq__ := He.meth_ok (c.1.fact 57 (f := .meth "Share" "__eq__") rfl)
  m_Table_share_of := He.meth_ok (c.1.fact 58 (f := .meth "Table" "share_of") rfl)
  m_Table_texts := He.meth_ok (c.1.fact 59 (f := .meth "Table" "texts") rfl)
  m_Table_weight_of := He.meth_ok (c.1.fact 60 (f := .meth "Table" "weight_of") rfl)
  n_Machine_alphabet := He.noat_ok (c.1.fact 61 (f := .noat "Machine" "alphabet") rfl)
  n_Machine_length := He.noat_ok (c.1.fact 62 (f := .noat "Machine" "length") rfl)
  n_Machine_rows := He.noat_ok (c.1.fact 63 (f := .noat "Machine" "rows") rfl)
  n_Machine_start := He.noat_ok (c.1.fact 64 (f := .noat "Machine" "start") rfl)
  n_Machine_unit := He.noat_ok (c.1.fact 65 (f := .noat "Machine" "unit") rfl)
  n_Machine_weights := He.noat_ok (c.1.fact 66 (f := .noat "Machine" "weights") rfl)
  n_Machine_whole := He.noat_ok (c.1.fact 67 (f := .noat "Machine" "whole") rfl)
  n_Marking_entries := He.noat_ok (c.1.fact 68 (f := .noat "Marking" "entries") rfl)
  n_Marking_whole := He.noat_ok (c.1.fact 69 (f := .noat "Marking" "whole") rfl)
  n_Share_over := He.noat_ok (c.1.fact 70 (f := .noat "Share" "over") rfl)
  n_Share_under := He.noat_ok (c.1.fact 71 (f := .noat "Share" "under") rfl)
  n_Table_weights := He.noat_ok (c.1.fact 72 (f := .noat "Table" "weights") rfl)
  n_Table_whole := He.noat_ok (c.1.fact 73 (f := .noat "Table" "whole") rfl)
  ne_Share := nek_ok (List.all_eq_true.mp c.2 _ (List.mem_of_getElem? (i := 1) rfl))
theorem facts {P : Program} {w : World} {K : PySem.W.Frag} {h : Heap} {mg : Str → Option Value} {f : Addr} (X : K.In h) (G : h.Ns mainGlobals mg) (hfa : mg ("law" : Str) = some (.ref f)) (c : SaysX xa fa fn K) :
    ∃ fd : FuncData, (∀ (s : Shared) (v : Value), BindsTo s fd ⟨[v], []⟩ [("script", v)]) ∧ ∀ base : Heap, K.In base → base.Ns mainGlobals mg → FnOk P w K mg base CX0 7 f fd ["script"] (spP (Row.one (tyZ K)) tyB (w_law)) := by
  have T := txt X G c
  obtain ⟨fd, F⟩ := T.f_law
  have e := hfa.symm.trans (He.glo_ok X G (c.1.fact 10 (f := .glo "law") rfl))
  cases e
  have b := FunD.bindsA (ps := ["script"]) F fun _ _ _ _ _ _ us hl => match us, hl with | [_], _ => rfl
  exact ⟨fd, fun s v => b s [v] rfl, fun base _ _ => fo_law T F⟩
end Zk
set_option maxHeartbeats 0
open PySem PySem.W PySem.Calls PyProof.Rows
theorem PySem.Challenge.cw_sourcestold_k14_seen_at_holds : PySem.Challenge.rw_sourcestold_k14_seen_at.Holds := by
  w_on; o_law
  refine HandSHeadRun.head_any (r := OpenLaw.row PySem.Challenge.rw_sourcestold_k14_seen_at) (q := view (OpenLaw.row PySem.Challenge.rw_sourcestold_k14_seen_at).prog [40]) (H := Zk.hk) (ob := Zk.ob) (M := 4000) (loose := Zk.names) (d := HandSHeadRun.topDef (OpenLaw.row PySem.Challenge.rw_sourcestold_k14_seen_at).prog 40) (kwd := []) Zk.ob_eq
    (by kernel_rfl) (fun s => by kernel_rfl) Zk.run (by kernel_rfl) (by kernel_rfl) (by kernel_rfl) (by rfl) (by first | assumption | decide +kernel) (by decide +kernel) ⟨rfl, rfl, rfl, rfl, rfl, by decide +kernel⟩ ?hw ?hc
  case hw => w_witness2
  case hc =>
    refine L2.walk_ofE (l := PySem.Challenge.rw_sourcestold_k14_seen_at) (n := 63) (k := 7) (x := "script") (CX := L2.CX0) rfl (by decide) (by kernel_rfl) ⟨rfl, by decide, by decide⟩ ?F (fun _ _ _ _ z => z)
    intro w mg fa h Y G hmg0
    obtain ⟨K, KX, c⟩ := Y
    have hmg : mg ("law" : PySem.Str) = some (.ref fa) := by
      have e : (HandSHeadRun.topDef (OpenLaw.row PySem.Challenge.rw_sourcestold_k14_seen_at).prog 40).name = ("law" : PySem.Str) := by kernel_rfl
      rw [← e]
      exact hmg0
    obtain ⟨fd, hb, hF⟩ := Zk.facts (P := (PySem.Challenge.rw_sourcestold_k14_seen_at).prog) (w := w) KX G hmg c
    exact ⟨K, fd, _, KX, hb, fun H a ns hl _ hS => ⟨H, ns, fun b => b = true, ⟨Zk.Same.sub (L2.Same.refl H), (fun _ e => nomatch e)⟩, ⟨_, rfl, a, rfl, hS⟩, Zk.law_true ns hl, fun G' H' v y _ _ r e => by
      have r : v = L2.V.bl y := r
      rw [r, e]⟩, hF⟩
