import PyProof.Rows.All
import Wide.All
import OpenK.AllK
import Wide.FinOn
import HandS.ForMost
import HandS.ForExc
import HandS.IsInst
import HandS.Wide
import HandS.Deep
import HandS.CallSlots
import HandS.TupAny
import HandS.Style
import HandS.WordsExc
import HandS.SortInts
import HandS.More
import HandS.Conv
import HandS.Iter
import HandS.ExcInit
import HandS.ClsMeth
import HandS.Nested
import KE.KExcSuper
import HandS.ExcField
import HandS.TryOnly
import HandS.TryMany
import PySem.Challenge.RW_meterhouse_k61_counts_up_to_bounds
set_option Elab.async false
set_option linter.all false
set_option maxRecDepth 100000
set_option maxHeartbeats 4000000
/-! A layer of values over the hand layer: what a def computes as a plain function of data. -/
namespace Pv
open PySem PySem.Spec L2
open PyProof.Rows hiding St

/-! ### data, results -/
inductive D where
  | non | bl (b : Bool) | int (i : Int) | str (x : Str)
  | tup (xs : List D) | lst (xs : List D) | scr (xs : List D) | dic (kvs : List (D × D)) | ref (n : Nat)
structure Exc where
  cls : Str
  val : D
inductive Cell where
  | lst (xs : List D) | dic (kvs : List (D × D)) | ins (cls : Str) (fs : List (Str × D))
abbrev AS := List Cell
inductive R (α : Type) where
  | un | ok (a : α) (A : AS) | ex (e : Exc) (A : AS)
abbrev M (α : Type) := AS → R α
def R.bind {α β : Type} (r : R α) (k : α → AS → R β) : R β := match r with
  | .un => .un
  | .ok a A => k a A
  | .ex e A => .ex e A
@[simp] theorem R.bind_ok {α β : Type} (a : α) (A : AS) (k : α → AS → R β) : (R.ok a A).bind k = k a A := (rfl)
@[simp] theorem R.bind_un {α β : Type} (k : α → AS → R β) : (R.un : R α).bind k = .un := (rfl)
@[simp] theorem R.bind_ex {α β : Type} (e : Exc) (A : AS) (k : α → AS → R β) : (R.ex e A : R α).bind k = .ex e A := (rfl)
/-- slots: unknown, a value, an own list, an own dict, an exception held -/
inductive Sl where
  | un | sh (d : D) | ow (xs : List D) | od (kvs : List (D × D)) | xc (e : Exc)
abbrev Env := List Sl
def sget : Env → Nat → Sl
  | [], _ => .un
  | s :: _, 0 => s
  | _ :: r, n + 1 => sget r n
def sset : Env → Nat → Sl → Env
  | [], _, _ => []
  | _ :: r, 0, x => x :: r
  | s :: r, n + 1, x => s :: sset r n x
theorem sset_length : ∀ (δ : Env) (i : Nat) (x : Sl), (sset δ i x).length = δ.length
  | [], _, _ => rfl
  | _ :: _, 0, _ => rfl
  | _ :: r, n + 1, x => congrArg (· + 1) (sset_length r n x)
theorem sget_sset_same : ∀ {δ : Env} {i : Nat} {x : Sl}, i < δ.length → sget (sset δ i x) i = x
  | [], _, _, h => absurd h (Nat.not_lt_zero _)
  | _ :: _, 0, _, _ => rfl
  | _ :: r, n + 1, x, h => sget_sset_same (δ := r) (Nat.lt_of_succ_lt_succ h)
theorem sget_sset_ne : ∀ {δ : Env} {i j : Nat} {x : Sl}, i ≠ j → sget (sset δ i x) j = sget δ j
  | [], _, _, _, _ => rfl
  | _ :: _, 0, 0, _, h => absurd rfl h
  | _ :: _, 0, _ + 1, _, _ => rfl
  | _ :: _, _ + 1, 0, _, _ => rfl
  | _ :: r, i + 1, j + 1, x, h => sget_sset_ne (δ := r) (fun e => h (congrArg _ e))
theorem sget_out : ∀ {δ : Env} {i : Nat}, δ.length ≤ i → sget δ i = .un
  | [], _, _ => rfl
  | _ :: r, 0, h => absurd h (Nat.not_succ_le_zero _)
  | _ :: r, i + 1, h => sget_out (δ := r) (Nat.le_of_succ_le_succ h)
/-- a statement's end -/
inductive SR where
  | un | nx (δ : Env) (A : AS) | rt (d : D) (A : AS) | bk (δ : Env) (A : AS) | ct (δ : Env) (A : AS) | ex (e : Exc) (δ : Env) (A : AS)

/-! ### data in the heap -/
def keyD : Key → D
  | .inl i => .int i
  | .inr x => .str x
theorem Same.sqT {K : PySem.W.Frag} {H H' : Hp} {a : Addr} {xs : List V} (e : Same H H') (h : SqT K H a xs) : SqT K H' a xs := by
  rcases h with (h | ⟨o, h⟩) | h
  · exact .inl (.inl (e _ _ h))
  · exact .inl (.inr ⟨o, e _ _ h⟩)
  · exact .inr h
/-- a dict's keys, as data, and values -/
inductive DAt (S : Hp) (a : Addr) : List (D × V) → Prop where
  | k {kvs : List (Key × V)} (h : S a = some (.dK kvs)) : DAt S a (kvs.map fun p => (keyD p.1, p.2))
  | t {kvs : List (List Key × V)} (h : S a = some (.dT kvs)) : DAt S a (kvs.map fun p => (.tup (p.1.map keyD), p.2))
theorem DAt.mono {S S' : Hp} {a : Addr} {kvs : List (D × V)} (e : Same S S') (h : DAt S a kvs) : DAt S' a kvs := by
  cases h with
  | k h => exact .k (e _ _ h)
  | t h => exact .t (e _ _ h)
theorem DAt.at {S S' : Hp} {a : Addr} {kvs : List (D × V)} (e : S' a = S a) (h : DAt S a kvs) : DAt S' a kvs := by
  cases h with
  | k h => exact .k (e.trans h)
  | t h => exact .t (e.trans h)
theorem DAt.some {S : Hp} {a : Addr} {kvs : List (D × V)} (h : DAt S a kvs) : S a ≠ none := by
  cases h with
  | k h => rw [h]; exact fun z => nomatch z
  | t h => rw [h]; exact fun z => nomatch z
mutual
inductive Rp (K : PySem.W.Frag) (S : Hp) (μ : List Addr) : V → D → Prop where
  | non : Rp K S μ .non .non
  | bl (b : Bool) : Rp K S μ (.bl b) (.bl b)
  | int (i : Int) : Rp K S μ (.int i) (.int i)
  | str (x : Str) : Rp K S μ (.str x) (.str x)
  | tup {a : Addr} {vs : List V} {ds : List D} : SqT K S a vs → RpA K S μ vs ds → Rp K S μ (.ref a) (.tup ds)
  | lst {a : Addr} {vs : List V} {ds : List D} : S a = some (.lst vs) → RpA K S μ vs ds → Rp K S μ (.ref a) (.lst ds)
  | scr {a : Addr} {vs : List V} {ds : List D} : SqL K S a vs → RpA K S μ vs ds → Rp K S μ (.ref a) (.scr ds)
  | dic {a : Addr} {kvs : List (D × V)} {ds : List (D × D)} : DAt S a kvs → RpV K S μ kvs ds → Rp K S μ (.ref a) (.dic ds)
  | ref {a : Addr} {n : Nat} : μ[n]? = some a → Rp K S μ (.ref a) (.ref n)
inductive RpA (K : PySem.W.Frag) (S : Hp) (μ : List Addr) : List V → List D → Prop where
  | nil : RpA K S μ [] []
  | cons {v : V} {vs : List V} {d : D} {ds : List D} : Rp K S μ v d → RpA K S μ vs ds → RpA K S μ (v :: vs) (d :: ds)
inductive RpV (K : PySem.W.Frag) (S : Hp) (μ : List Addr) : List (D × V) → List (D × D) → Prop where
  | nil : RpV K S μ [] []
  | cons {k : D} {v : V} {vs : List (D × V)} {d : D} {ds : List (D × D)} : Rp K S μ v d → RpV K S μ vs ds → RpV K S μ ((k, v) :: vs) ((k, d) :: ds)
end
section
variable {K : PySem.W.Frag} {S S' : Hp} {μ e : List Addr}
theorem mu_get {α : Type} {μ e : List α} {n : Nat} {a : α} (h : μ[n]? = some a) : (μ ++ e)[n]? = some a := by
  obtain ⟨h1, h2⟩ := List.getElem?_eq_some_iff.mp h
  rw [List.getElem?_append_left h1]
  exact h
mutual
theorem Rp.mono (hs : Same S S') : ∀ {d : D} {v : V}, Rp K S μ v d → Rp K S' (μ ++ e) v d
  | _, _, .non => .non
  | _, _, .bl b => .bl b
  | _, _, .int b => .int b
  | _, _, .str b => .str b
  | _, _, .tup a b => .tup (Same.sqT hs a) (RpA.mono hs b)
  | _, _, .lst a b => .lst (hs _ _ a) (RpA.mono hs b)
  | _, _, .scr a b => .scr (Same.seq hs a) (RpA.mono hs b)
  | _, _, .dic a b => .dic (a.mono hs) (RpV.mono hs b)
  | _, _, .ref a => .ref (mu_get a)
theorem RpA.mono (hs : Same S S') : ∀ {ds : List D} {vs : List V}, RpA K S μ vs ds → RpA K S' (μ ++ e) vs ds
  | _, _, .nil => .nil
  | _, _, .cons a b => .cons (Rp.mono hs a) (RpA.mono hs b)
theorem RpV.mono (hs : Same S S') : ∀ {ds : List (D × D)} {vs : List (D × V)}, RpV K S μ vs ds → RpV K S' (μ ++ e) vs ds
  | _, _, .nil => .nil
  | _, _, .cons a b => .cons (Rp.mono hs a) (RpV.mono hs b)
end
theorem Rp.sub {v : V} {d : D} (h : Rp K S μ v d) (hs : Same S S') : Rp K S' μ v d := by
  have z := Rp.mono (e := []) hs h
  rw [List.append_nil] at z
  exact z
theorem RpA.sub {vs : List V} {ds : List D} (h : RpA K S μ vs ds) (hs : Same S S') : RpA K S' μ vs ds := by
  have z := RpA.mono (e := []) hs h
  rw [List.append_nil] at z
  exact z
theorem RpV.sub {vs : List (D × V)} {ds : List (D × D)} (h : RpV K S μ vs ds) (hs : Same S S') : RpV K S' μ vs ds := by
  have z := RpV.mono (e := []) hs h
  rw [List.append_nil] at z
  exact z
theorem RpA.length : ∀ {vs : List V} {ds : List D}, RpA K S μ vs ds → vs.length = ds.length
  | _, _, .nil => rfl
  | _, _, .cons _ b => congrArg (· + 1) (RpA.length b)
theorem RpA.get : ∀ {vs : List V} {ds : List D} {i : Nat} {d : D}, RpA K S μ vs ds → ds[i]? = some d → ∃ v, vs[i]? = some v ∧ Rp K S μ v d
  | _, _, _, _, .nil, h => by cases h
  | _, _, 0, _, .cons a _, h => by
    have e := Option.some.inj h
    subst e
    exact ⟨_, rfl, a⟩
  | _, _, i + 1, _, .cons _ b, h => RpA.get (i := i) b h
theorem RpA.getV : ∀ {vs : List V} {ds : List D} {i : Nat} {v : V}, RpA K S μ vs ds → vs[i]? = some v → ∃ d, ds[i]? = some d ∧ Rp K S μ v d
  | _, _, _, _, .nil, h => by cases h
  | _, _, 0, _, .cons a _, h => by
    have e := Option.some.inj h
    subst e
    exact ⟨_, rfl, a⟩
  | _, _, i + 1, _, .cons _ b, h => RpA.getV (i := i) b h
theorem RpA.append : ∀ {vs ws : List V} {ds es : List D}, RpA K S μ vs ds → RpA K S μ ws es → RpA K S μ (vs ++ ws) (ds ++ es)
  | _, _, _, _, .nil, h => h
  | _, _, _, _, .cons a b, h => .cons a (RpA.append b h)
theorem RpA.take : ∀ {vs : List V} {ds : List D} (n : Nat), RpA K S μ vs ds → RpA K S μ (vs.take n) (ds.take n)
  | _, _, 0, _ => .nil
  | _, _, _ + 1, .nil => .nil
  | _, _, n + 1, .cons a b => .cons a (RpA.take n b)
theorem RpA.drop : ∀ {vs : List V} {ds : List D} (n : Nat), RpA K S μ vs ds → RpA K S μ (vs.drop n) (ds.drop n)
  | _, _, 0, r => r
  | _, _, _ + 1, .nil => .nil
  | _, _, n + 1, .cons _ b => RpA.drop n b
theorem RpA.set {v : V} {d : D} (r : Rp K S μ v d) : ∀ {vs : List V} {ds : List D} (i : Nat), RpA K S μ vs ds → RpA K S μ (vs.set i v) (ds.set i d)
  | _, _, _, .nil => .nil
  | _, _, 0, .cons _ t => .cons r t
  | _, _, i + 1, .cons q t => .cons q (RpA.set r i t)
theorem RpA.one {v : V} {d : D} (r : Rp K S μ v d) : RpA K S μ [v] [d] := .cons r .nil
end

/-! ### the store of what may change -/
def FRep (K : PySem.W.Frag) (S : Hp) (μ : List Addr) : List (Str × V) → List (Str × D) → Prop := Paired fun p q => p.1 = q.1 ∧ Rp K S μ p.2 q.2
def CRep (K : PySem.W.Frag) (mg : Str → Option Value) (S : Hp) (μ : List Addr) (H : Hp) (a : Addr) : Cell → Prop
  | .lst xs => ∃ vs, H a = some (.lst vs) ∧ RpA K S μ vs xs
  | .dic kvs => ∃ vs, DAt H a vs ∧ RpV K S μ vs kvs
  | .ins c fs => ∃ C dx vs, mg c = some (.ref C) ∧ H a = some (.ins C dx vs) ∧ FRep K S μ vs fs
theorem FRep.mono {K : PySem.W.Frag} {S S' : Hp} {μ e : List Addr} {vs : List (Str × V)} {fs : List (Str × D)} (hs : Same S S') (h : FRep K S μ vs fs) : FRep K S' (μ ++ e) vs fs :=
  Paired.mapP h fun _ _ z => ⟨z.1, Rp.mono hs z.2⟩
theorem CRep.mono {K : PySem.W.Frag} {mg : Str → Option Value} {S S' H H' : Hp} {μ e : List Addr} {a : Addr} {c : Cell} (hs : Same S S') (hH : H' a = H a) (h : CRep K mg S μ H a c) : CRep K mg S' (μ ++ e) H' a c := by
  cases c with
  | lst xs => obtain ⟨vs, h1, h2⟩ := h; exact ⟨vs, hH.trans h1, h2.mono hs⟩
  | dic kvs => obtain ⟨vs, h1, h2⟩ := h; exact ⟨vs, DAt.at hH h1, h2.mono hs⟩
  | ins c fs => obtain ⟨C, dx, vs, h1, h2, h3⟩ := h; exact ⟨C, dx, vs, h1, hH.trans h2, FRep.mono hs h3⟩
theorem CRep.some {K : PySem.W.Frag} {mg : Str → Option Value} {S H : Hp} {μ : List Addr} {a : Addr} {c : Cell} (h : CRep K mg S μ H a c) : H a ≠ none := by
  cases c with
  | lst xs => obtain ⟨vs, h1, h2⟩ := h; rw [h1]; exact fun z => nomatch z
  | dic kvs => obtain ⟨vs, h1, h2⟩ := h; exact h1.some
  | ins c fs => obtain ⟨C, dx, vs, h1, h2, h3⟩ := h; rw [h2]; exact fun z => nomatch z
structure Wd (K : PySem.W.Frag) (mg : Str → Option Value) (S : Hp) (μ : List Addr) (A : AS) (H : Hp) : Prop where
  sub : Same S H
  len : μ.length = A.length
  nd : μ.Nodup
  off : ∀ a ∈ μ, S a = none
  cell : ∀ (n : Nat) (c : Cell) (a : Addr), A[n]? = some c → μ[n]? = some a → CRep K mg S μ H a c
section
variable {K : PySem.W.Frag} {mg : Str → Option Value} {S S' S1 S2 H H' H1 H2 : Hp} {μ μ' μ1 μ2 : List Addr} {A A' A1 A2 : AS}
theorem Wd.there (w : Wd K mg S μ A H) {a : Addr} (h : a ∈ μ) : H a ≠ none := by
  obtain ⟨n, hn, e⟩ := List.mem_iff_getElem.mp h
  have h1 : n < A.length := by rw [← w.len]; exact hn
  exact (w.cell n _ a (List.getElem?_eq_getElem h1) (by rw [List.getElem?_eq_getElem hn, e])).some
theorem Wd.notMu (w : Wd K mg S μ A H) {a : Addr} {o : HO} (h : S a = some o) : a ∉ μ := fun z => by
  rw [w.off a z] at h
  cases h
/-- what an expression, a call may do -/
structure Nxt (K : PySem.W.Frag) (mg : Str → Option Value) (H S : Hp) (μ : List Addr) (A' : AS) (H' S' : Hp) (μ' : List Addr) : Prop where
  wd : Wd K mg S' μ' A' H'
  sub : Same S S'
  mu : ∃ e, μ' = μ ++ e ∧ ∀ a ∈ e, H a = none
  fr : ∀ a o, H a = some o → a ∉ μ → H' a = some o
  nw : ∀ a, H a ≠ none → S a = none → S' a = none
theorem Nxt.refl (w : Wd K mg S μ A H) : Nxt K mg H S μ A H S μ :=
  ⟨w, Same.refl _, ⟨[], (List.append_nil _).symm, fun _ h => nomatch h⟩, fun _ _ h _ => h, fun _ _ h => h⟩
theorem Nxt.keep (n : Nxt K mg H S μ A' H' S' μ') (h0 : ∀ a ∈ μ, H a ≠ none) {a : Addr} (h : H a ≠ none) : H' a ≠ none := by
  obtain ⟨e, he, _⟩ := n.mu
  by_cases ha : a ∈ μ
  · exact n.wd.there (by rw [he]; exact List.mem_append_left _ ha)
  · cases q : H a with
    | none => exact absurd q h
    | some o => rw [n.fr a o q ha]; exact fun z => nomatch z
theorem Nxt.free (n : Nxt K mg H S μ A' H' S' μ') (h0 : ∀ a ∈ μ, H a ≠ none) {a : Addr} (h : H' a = none) : H a = none := by
  cases q : H a with
  | none => rfl
  | some o => exact absurd h (n.keep h0 (by rw [q]; exact fun z => nomatch z))
theorem Nxt.trans (w : ∀ a ∈ μ, H a ≠ none) (a : Nxt K mg H S μ A1 H1 S1 μ1) (b : Nxt K mg H1 S1 μ1 A2 H2 S2 μ2) : Nxt K mg H S μ A2 H2 S2 μ2 := by
  obtain ⟨e1, he1, hf1⟩ := a.mu
  obtain ⟨e2, he2, hf2⟩ := b.mu
  refine ⟨b.wd, a.sub.trans b.sub, ⟨e1 ++ e2, by rw [he2, he1, List.append_assoc], fun c hc => ?_⟩, fun c o hc hm => ?_, fun c hc hs => ?_⟩
  · rcases List.mem_append.mp hc with hc | hc
    · exact hf1 c hc
    · exact a.free w (hf2 c hc)
  · refine b.fr c o (a.fr c o hc hm) fun z => ?_
    rw [he1] at z
    rcases List.mem_append.mp z with z | z
    · exact hm z
    · rw [hf1 c z] at hc; cases hc
  · exact b.nw c (a.keep w hc) (a.nw c hc hs)
theorem Nxt.rp (n : Nxt K mg H S μ A' H' S' μ') {v : V} {d : D} (h : Rp K S μ v d) : Rp K S' μ' v d := by
  obtain ⟨e, he, _⟩ := n.mu
  rw [he]
  exact h.mono n.sub
theorem Nxt.rpA (n : Nxt K mg H S μ A' H' S' μ') {v : List V} {d : List D} (h : RpA K S μ v d) : RpA K S' μ' v d := by
  obtain ⟨e, he, _⟩ := n.mu
  rw [he]
  exact h.mono n.sub
theorem Nxt.rpV (n : Nxt K mg H S μ A' H' S' μ') {v : List (D × V)} {d : List (D × D)} (h : RpV K S μ v d) : RpV K S' μ' v d := by
  obtain ⟨e, he, _⟩ := n.mu
  rw [he]
  exact h.mono n.sub
theorem Nxt.notMu (n : Nxt K mg H S μ A' H' S' μ') {a : Addr} (h : H a ≠ none) (hm : a ∉ μ) : a ∉ μ' := fun z => by
  obtain ⟨e, he, hf⟩ := n.mu
  rw [he] at z
  rcases List.mem_append.mp z with z | z
  · exact hm z
  · exact h (hf a z)
/-- a new cell, not shared -/
theorem Nxt.own {p : Addr} {o : HO} (w : Wd K mg S μ A H) (hp : H p = none) : Nxt K mg H S μ A (upd H p o) S μ := by
  have hn : ∀ a o', H a = some o' → a ≠ p := fun a o' h => ne_of_none h hp
  refine ⟨⟨fun a o' h => ?_, w.len, w.nd, w.off, fun n c a h1 h2 => ?_⟩, Same.refl _, ⟨[], (List.append_nil _).symm, fun _ h => nomatch h⟩, fun a o' h _ => ?_, fun _ _ h => h⟩
  · rw [upd_ne (hn a o' (w.sub a o' h))]; exact w.sub a o' h
  · have z := w.there (List.mem_of_getElem? h2)
    have hne : a ≠ p := fun e => z (by rw [e]; exact hp)
    have q := (w.cell n c a h1 h2).mono (e := []) (S' := S) (H' := upd H p o) (Same.refl _) (upd_ne hne)
    rw [List.append_nil] at q
    exact q
  · rw [upd_ne (hn a o' h)]; exact h
theorem Nxt.ownUpd {p : Addr} {o : HO} (n : Nxt K mg H S μ A' H' S' μ') (hp : H p = none) (hs : S' p = none) (hm : p ∉ μ') : Nxt K mg H S μ A' (upd H' p o) S' μ' := by
  refine ⟨⟨fun a o' h => ?_, n.wd.len, n.wd.nd, n.wd.off, fun k c a h1 h2 => ?_⟩, n.sub, n.mu, fun a o' h hm' => ?_, n.nw⟩
  · rw [upd_ne (ne_of_none h hs)]; exact n.wd.sub a o' h
  · have hne : a ≠ p := fun e => hm (by rw [← e]; exact List.mem_of_getElem? h2)
    have q := (n.wd.cell k c a h1 h2).mono (e := []) (S' := S') (H' := upd H' p o) (Same.refl _) (upd_ne hne)
    rw [List.append_nil] at q
    exact q
  · rw [upd_ne (ne_of_none h hp)]; exact n.fr a o' h hm'
theorem same_upd {H : Hp} {p : Addr} {o : HO} (h : H p = none) : Same H (upd H p o) := fun b x e => by
  rw [upd_ne (ne_of_none e h)]
  exact e
/-- what stands in H at a free place of S becomes shared -/
theorem Wd.share {p : Addr} {o : HO} (w : Wd K mg S μ A H) (hp : H p = some o) (hs : S p = none) (hm : p ∉ μ) : Wd K mg (upd S p o) μ A H := by
  refine ⟨fun a u h => ?_, w.len, w.nd, fun a ha => ?_, fun n c a h1 h2 => ?_⟩
  · by_cases e : a = p
    · subst e; rw [upd_same] at h; cases h; exact hp
    · rw [upd_ne e] at h; exact w.sub a u h
  · rw [upd_ne (fun e : a = p => hm (by rw [← e]; exact ha))]; exact w.off a ha
  · have q := (w.cell n c a h1 h2).mono (e := []) (S' := upd S p o) (H' := H) (same_upd hs) rfl
    rw [List.append_nil] at q
    exact q
theorem Nxt.new {p : Addr} {o : HO} (w : Wd K mg S μ A H) (hp : H p = none) : Nxt K mg H S μ A (upd H p o) (upd S p o) μ := by
  have hs : S p = none := by
    cases q : S p with
    | none => rfl
    | some u => rw [w.sub p u q] at hp; cases hp
  have hm : p ∉ μ := fun z => w.there z hp
  have n := Nxt.own (o := o) w hp
  refine ⟨n.wd.share upd_same hs hm, same_upd hs, ⟨[], (List.append_nil _).symm, fun _ h => nomatch h⟩, n.fr, fun a h1 h2 => ?_⟩
  rw [upd_ne (fun e : a = p => h1 (by rw [e]; exact hp))]
  exact h2
theorem Wd.freeS {p : Addr} (w : Wd K mg S μ A H) (hp : H p = none) : S p = none := by
  cases q : S p with
  | none => rfl
  | some u => rw [w.sub p u q] at hp; cases hp
end
end Pv

noncomputable section
namespace Pv
open PySem PySem.Spec L2
open PyProof.Rows hiding St

/-! ### the slots -/
def isOwn : Sl → Bool
  | .ow _ => true
  | .od _ => true
  | _ => false
/-- what is wished of an exception; the exceptions that are held: object and dict -/
structure WW where
  w : WX
  xs : Addr → Addr → Prop
def SlotR (xs : Addr → Addr → Prop) (K : PySem.W.Frag) (mg : Str → Option Value) (S : Hp) (μ : List Addr) (H : Hp) : Sl → Option (Option V) → Prop
  | .un, _ => True
  | .sh d, o => ∃ v, o = some (some v) ∧ Rp K S μ v d
  | .ow ls, o => ∃ p vs, o = some (some (.ref p)) ∧ H p = some (.lst vs) ∧ S p = none ∧ p ∉ μ ∧ RpA K S μ vs ls
  | .od kvs, o => ∃ p vs, o = some (some (.ref p)) ∧ DAt H p vs ∧ S p = none ∧ p ∉ μ ∧ RpV K S μ vs kvs
  | .xc e, o => ∃ a dx fs v, o = some (some (.ref a)) ∧ xs a dx ∧ H dx = some (.xd fs) ∧ dx ∉ μ ∧ fs.lookup ("at" : Str) = some v ∧ Rp K S μ v e.val
structure Base where
  H : Hp
  S : Hp
  mu : List Addr
def OwnAt (δ : Env) (σ : St) (i : Nat) (p : Addr) : Prop := isOwn (sget δ i) = true ∧ σ[i]? = some (some (.ref p))
structure StR (xs : Addr → Addr → Prop) (K : PySem.W.Frag) (mg : Str → Option Value) (B : Base) (σ : St) (δ : Env) (H S : Hp) (μ : List Addr) (A : AS) : Prop where
  nx : Nxt K mg B.H B.S B.mu A H S μ
  b0 : ∀ a ∈ B.mu, B.H a ≠ none
  len : δ.length = σ.length
  sl : ∀ i, SlotR xs K mg S μ H (sget δ i) σ[i]?
  fr : ∀ i p, OwnAt δ σ i p → B.H p = none
  ap : ∀ i j p, OwnAt δ σ i p → OwnAt δ σ j p → i = j
/-- an exception behind a raise -/
def ERep (K : PySem.W.Frag) (mg : Str → Option Value) (S : Hp) (μ : List Addr) (H : Hp) (e : Exc) (C : Addr) (dx : Addr) : Prop :=
  mg e.cls = some (.ref C) ∧ ∃ fs v, H dx = some (.xd fs) ∧ fs.lookup ("at" : Str) = some v ∧ Rp K S μ v e.val
abbrev Rel (β α : Type) := Hp → Hp → Hp → List Addr → β → α → Prop
/-- what is wanted behind an expression -/
def EPost {α β : Type} (K : PySem.W.Frag) (mg : Str → Option Value) (H S : Hp) (μ : List Addr) (W : WW) (σ : St) (rel : Rel β α) (Q : β → Hp → Prop) : R α → Prop
  | .un => False
  | .ok a A' => ∀ b H' S' μ', Nxt K mg H S μ A' H' S' μ' → rel H H' S' μ' b a → Q b H'
  | .ex e A' => ∀ C dx H' S' μ', Nxt K mg H S μ A' H' S' μ' → ERep K mg S' μ' H' e C dx → W.w (.ref C) (some dx) σ H'
def Up {α β : Type} (rel : Rel β α) : Prop := ∀ H H1 H' S' μ' b a, (∀ x, H1 x = none → H x = none) → rel H1 H' S' μ' b a → rel H H' S' μ' b a
abbrev rE (K : PySem.W.Frag) : Rel V D := fun _ _ S μ v d => Rp K S μ v d
abbrev rA (K : PySem.W.Frag) : Rel (List V) (List D) := fun _ _ S μ v d => RpA K S μ v d
abbrev rT : Rel Bool Bool := fun _ _ _ _ b c => b = c
abbrev rO : Rel (Option Int) (Option Int) := fun _ _ _ _ b c => b = c
/-- a value, or an own list, an own dict as it stands -/
inductive RB (K : PySem.W.Frag) (H' S' : Hp) (μ' : List Addr) : V → D → Prop where
  | rp {v d} (h : Rp K S' μ' v d) : RB K H' S' μ' v d
  | ow {p vs ds} (h : H' p = some (.lst vs)) (hm : p ∉ μ') (r : RpA K S' μ' vs ds) : RB K H' S' μ' (.ref p) (.lst ds)
  | od {p vs ds} (h : DAt H' p vs) (hm : p ∉ μ') (r : RpV K S' μ' vs ds) : RB K H' S' μ' (.ref p) (.dic ds)
abbrev rB (K : PySem.W.Frag) : Rel V D := fun _ H' S' μ' v d => RB K H' S' μ' v d
/-- a new list, none else's -/
abbrev rF (K : PySem.W.Frag) : Rel V (List D) := fun H H' S' μ' v ds => ∃ p vs, v = .ref p ∧ H p = none ∧ H' p = some (.lst vs) ∧ S' p = none ∧ p ∉ μ' ∧ RpA K S' μ' vs ds
theorem up_E {K : PySem.W.Frag} : Up (rE K) := fun _ _ _ _ _ _ _ _ h => h
theorem up_A {K : PySem.W.Frag} : Up (rA K) := fun _ _ _ _ _ _ _ _ h => h
theorem up_B {K : PySem.W.Frag} : Up (rB K) := fun _ _ _ _ _ _ _ _ h => h
theorem up_T : Up rT := fun _ _ _ _ _ _ _ _ h => h
theorem up_O : Up rO := fun _ _ _ _ _ _ _ _ h => h
theorem up_F {K : PySem.W.Frag} : Up (rF K) := fun _ _ _ _ _ _ _ f ⟨p, vs, e, h1, h2⟩ => ⟨p, vs, e, f p h1, h2⟩

section
variable {K : PySem.W.Frag} {mg : Str → Option Value} {B : Base} {σ : St} {δ : Env} {H S H1 S1 H' S' : Hp} {μ μ1 μ' : List Addr} {A A1 A' : AS} {W : WW} {α β γ ε : Type}
theorem StR.wd (s : StR W.xs K mg B σ δ H S μ A) : Wd K mg S μ A H := s.nx.wd
theorem StR.h0 (s : StR W.xs K mg B σ δ H S μ A) : ∀ a ∈ μ, H a ≠ none := fun _ h => s.wd.there h
theorem Wd.h0 (w : Wd K mg S μ A H) : ∀ a ∈ μ, H a ≠ none := fun _ h => w.there h
theorem SlotR.nxt (n : Nxt K mg H S μ A' H' S' μ') {x : Sl} {o : Option (Option V)} (h : SlotR W.xs K mg S μ H x o) : SlotR W.xs K mg S' μ' H' x o := by
  cases x with
  | un => trivial
  | sh d => obtain ⟨v, e, r⟩ := h; exact ⟨v, e, n.rp r⟩
  | ow xs =>
    obtain ⟨p, vs, e, h1, h2, h3, r⟩ := h
    have z : H p ≠ none := by rw [h1]; exact fun z => nomatch z
    exact ⟨p, vs, e, n.fr p _ h1 h3, n.nw p z h2, n.notMu z h3, n.rpA r⟩
  | od kvs =>
    obtain ⟨p, vs, e, h1, h2, h3, r⟩ := h
    have z : H p ≠ none := h1.some
    have q : H' p = H p := by
      cases h1 with
      | k h => rw [n.fr p _ h h3, h]
      | t h => rw [n.fr p _ h h3, h]
    exact ⟨p, vs, e, h1.at q, n.nw p z h2, n.notMu z h3, n.rpV r⟩
  | xc e =>
    obtain ⟨a, dx, fs, v, e1, h1, h2, h3, h4, r⟩ := h
    exact ⟨a, dx, fs, v, e1, h1, n.fr dx _ h2 h3, n.notMu (by rw [h2]; exact fun z => nomatch z) h3, h4, n.rp r⟩
theorem StR.step (s : StR W.xs K mg B σ δ H S μ A) (n : Nxt K mg H S μ A' H' S' μ') : StR W.xs K mg B σ δ H' S' μ' A' :=
  ⟨s.nx.trans s.b0 n, s.b0, s.len, fun i => (s.sl i).nxt n, s.fr, s.ap⟩
theorem EPost.shift {rel : Rel β α} (hu : Up rel) (h0 : ∀ a ∈ μ, H a ≠ none) (n : Nxt K mg H S μ A1 H1 S1 μ1) {Q : β → Hp → Prop} {r : R α} (h : EPost K mg H S μ W σ rel Q r) : EPost K mg H1 S1 μ1 W σ rel Q r := by
  cases r with
  | un => exact h
  | ok a A' => exact fun b H' S' μ' m z => h b H' S' μ' (n.trans h0 m) (hu _ _ _ _ _ _ _ (fun x hx => n.free h0 hx) z)
  | ex e A' => exact fun C dx H' S' μ' m z => h C dx H' S' μ' (n.trans h0 m) z
/-- one after the other -/
theorem EPost.bind {rel1 : Rel β α} {rel2 : Rel ε γ} (hu : Up rel2) (h0 : ∀ a ∈ μ, H a ≠ none) {Q : ε → Hp → Prop} {Q' : β → Hp → Prop} {r : R α} {k : α → AS → R γ} (h : EPost K mg H S μ W σ rel2 Q (r.bind k))
    (hk : ∀ a A1 b H1 S1 μ1, Nxt K mg H S μ A1 H1 S1 μ1 → rel1 H H1 S1 μ1 b a → EPost K mg H1 S1 μ1 W σ rel2 Q (k a A1) → Q' b H1) : EPost K mg H S μ W σ rel1 Q' r := by
  cases r with
  | un => exact h
  | ok a A' => exact fun b H' S' μ' n z => hk a A' b H' S' μ' n z (EPost.shift hu h0 n h)
  | ex e A' => exact h
end

/-- a reading does what the function says -/
def Snd {α β : Type} (K : PySem.W.Frag) (mg : Str → Option Value) (W : WW) (rel : Rel β α) (t : St → Hp → (β → Hp → Prop) → Prop) (f : Env → M α) : Prop :=
  ∀ B σ δ H S μ A Q, StR W.xs K mg B σ δ H S μ A → EPost K mg H S μ W σ rel Q (f δ A) → t σ H Q
structure PuE (X : Cx) (W : WW) (e : Expr) (t : TE) (f : Env → M D) : Prop where
  der : PE X e t
  snd : Snd X.K X.mg W (rE X.K) t f
structure PuB (X : Cx) (W : WW) (e : Expr) (t : TE) (f : Env → M D) : Prop where
  der : PE X e t
  snd : Snd X.K X.mg W (rB X.K) t f
structure PuF (X : Cx) (W : WW) (e : Expr) (t : TE) (f : Env → M (List D)) : Prop where
  der : PE X e t
  snd : Snd X.K X.mg W (rF X.K) t f
structure PuT (X : Cx) (W : WW) (e : Expr) (t : TT) (f : Env → M Bool) : Prop where
  der : PT X e t
  snd : Snd X.K X.mg W rT t f
/-- a chain of and, or within a test -/
structure PuW (X : Cx) (W : WW) (e : Expr) (t : TT) (f : Env → M Bool) : Prop where
  der : PW X e t
  snd : Snd X.K X.mg W rT t f
structure PuA (X : Cx) (W : WW) (es : List Expr) (t : TA) (f : Env → M (List D)) : Prop where
  der : PA X es t
  snd : Snd X.K X.mg W (rA X.K) t f
/-- arguments of which own lists may be looked at -/
inductive RBs (K : PySem.W.Frag) (H' S' : Hp) (μ' : List Addr) : List V → List D → Prop where
  | nil : RBs K H' S' μ' [] []
  | cons {v d vs ds} : RB K H' S' μ' v d → RBs K H' S' μ' vs ds → RBs K H' S' μ' (v :: vs) (d :: ds)
abbrev rBs (K : PySem.W.Frag) : Rel (List V) (List D) := fun _ H' S' μ' v d => RBs K H' S' μ' v d
structure PuC (X : Cx) (W : WW) (es : List Expr) (t : TA) (f : Env → M (List D)) : Prop where
  der : PA X es t
  snd : Snd X.K X.mg W (rBs X.K) t f

section
variable {X : Cx} {W : WW} {e a b c : Expr} {ta tb te tc : TE} {t u : TT} {f g h : Env → M D} {K : PySem.W.Frag} {mg : Str → Option Value}
theorem PuE.toB (h : PuE X W e te f) : PuB X W e te f := ⟨h.der, fun B σ δ H S μ A Q s p => h.snd B σ δ H S μ A Q s (by
  generalize f δ A = r at p
  cases r with
  | un => exact p
  | ok d A' => exact fun v H' S' μ' n z => p v H' S' μ' n (.rp z)
  | ex e A' => exact p)⟩
def fLst (f : Env → M (List D)) : Env → M D := fun δ A => (f δ A).bind fun ds A1 => .ok (.lst ds) A1
theorem PuF.toE {f : Env → M (List D)} (h : PuF X W e te f) : PuE X W e te (fLst f) := ⟨h.der, fun B σ δ H S μ A Q s p => h.snd B σ δ H S μ A Q s (by
  unfold fLst at p
  generalize f δ A = r at p
  cases r with
  | un => exact p
  | ok ds A' =>
    intro v H' S' μ' n ⟨q, vs, e, h1, h2, h3, h4, r⟩
    subst e
    have w : Wd X.K X.mg (upd S' q (.lst vs)) μ' A' H' := n.wd.share h2 h3 h4
    refine p (.ref q) H' (upd S' q (.lst vs)) μ' ⟨w, n.sub.trans (same_upd h3), n.mu, n.fr, fun a k1 k2 => ?_⟩ (.lst upd_same (r.sub (same_upd h3)))
    rw [upd_ne (fun z : a = q => k1 (by rw [z]; exact h1))]
    exact n.nw a k1 k2
  | ex e A' => exact p)⟩

/-! ### names, constants -/
def eVar (i : Nat) : Env → M D := fun δ A => match sget δ i with
  | .sh d => .ok d A
  | _ => .un
def eBor (i : Nat) : Env → M D := fun δ A => match sget δ i with
  | .sh d => .ok d A
  | .ow xs => .ok (.lst xs) A
  | .od kvs => .ok (.dic kvs) A
  | _ => .un
def eC (d : D) : Env → M D := fun _ A => .ok d A
theorem pu_var {i : Nat} {x : Str} {pos : Pos} (d : PE X (.Name x pos) (tVar i)) : PuE X W (.Name x pos) (tVar i) (eVar i) := ⟨d, fun B σ δ H S μ A Q s p => by
  have z := s.sl i
  unfold eVar at p
  generalize sget δ i = y at p z
  cases y with
  | sh d =>
    obtain ⟨v, e, r⟩ := z
    exact ⟨v, e, p v H S μ (Nxt.refl s.wd) r⟩
  | _ => exact p.elim⟩
theorem pu_bor {i : Nat} {x : Str} {pos : Pos} (d : PE X (.Name x pos) (tVar i)) : PuB X W (.Name x pos) (tVar i) (eBor i) := ⟨d, fun B σ δ H S μ A Q s p => by
  have z := s.sl i
  unfold eBor at p
  generalize sget δ i = y at p z
  cases y with
  | sh d =>
    obtain ⟨v, e, r⟩ := z
    exact ⟨v, e, p v H S μ (Nxt.refl s.wd) (.rp r)⟩
  | ow xs =>
    obtain ⟨q, vs, e, h1, h2, h3, r⟩ := z
    exact ⟨_, e, p _ H S μ (Nxt.refl s.wd) (.ow h1 h3 r)⟩
  | od xs =>
    obtain ⟨q, vs, e, h1, h2, h3, r⟩ := z
    exact ⟨_, e, p _ H S μ (Nxt.refl s.wd) (.od h1 h3 r)⟩
  | _ => exact p.elim⟩
theorem snd_c {v : V} {d : D} (r : ∀ S μ, Rp K S μ v d) : Snd K mg W (rE K) (tC v) (eC d) := fun B σ δ H S μ A Q s p => p v H S μ (Nxt.refl s.wd) (r S μ)
theorem pu_int {i j pos} : PuE X W (.Constant (.int i) j pos) (tC (.int i)) (eC (.int i)) := ⟨pe_int, snd_c fun _ _ => .int i⟩
theorem pu_bl {i j pos} : PuE X W (.Constant (.bool i) j pos) (tC (.bl i)) (eC (.bl i)) := ⟨pe_bl, snd_c fun _ _ => .bl i⟩
theorem pu_non {j pos} : PuE X W (.Constant .none j pos) (tC .non) (eC .non) := ⟨pe_non, snd_c fun _ _ => .non⟩
theorem pu_str {x j pos} : PuE X W (.Constant (.str x) j pos) (tC (.str x)) (eC (.str x)) := ⟨pe_str, snd_c fun _ _ => .str x⟩
/-- a module's constant: an int, a text -/
theorem pu_globI {x : Str} {i : Int} {tk : Tok} {pos : Pos} (hg : Gl X x) (hm : X.mg x = some (.int i tk)) (hd : (x == ("__debug__" : Str)) = false := by decide) : PuE X W (.Name x pos) (tC (.int i)) (eC (.int i)) :=
  ⟨pe_glob hg hm ⟨_, rfl⟩ hd, snd_c fun _ _ => .int i⟩
theorem pu_globS {x y : Str} {tk : Tok} {pos : Pos} (hg : Gl X x) (hm : X.mg x = some (.str y tk)) (hd : (x == ("__debug__" : Str)) = false := by decide) : PuE X W (.Name x pos) (tC (.str y)) (eC (.str y)) :=
  ⟨pe_glob hg hm ⟨_, rfl⟩ hd, snd_c fun _ _ => .str y⟩
/-- .. any other thing of the written part, by its data -/
theorem pu_globD {x : Str} {a : Addr} {d : D} {pos : Pos} (hg : Gl X x) (hm : X.mg x = some (.ref a)) (r : ∀ S μ, Rp X.K S μ (.ref a) d) (hd : (x == ("__debug__" : Str)) = false := by decide) : PuE X W (.Name x pos) (tC (.ref a)) (eC d) :=
  ⟨pe_glob hg hm rfl hd, snd_c r⟩

/-! ### operators -/
def eBin (h : D → D → M D) (f g : Env → M D) : Env → M D := fun δ A => (f δ A).bind fun x A1 => (g δ A1).bind fun y A2 => h x y A2
def eUn (h : D → M D) (f : Env → M D) : Env → M D := fun δ A => (f δ A).bind fun x A1 => h x A1
/-- an operation on values, looked at -/
def SndR2 (K : PySem.W.Frag) (mg : Str → Option Value) (r : R2) (h : D → D → M D) : Prop :=
  ∀ W σ H S μ A x y dx dy Q, Wd K mg S μ A H → RB K H S μ x dx → RB K H S μ y dy → EPost K mg H S μ W σ (rE K) Q (h dx dy A) → r x y H Q
def SndR2F (K : PySem.W.Frag) (mg : Str → Option Value) (r : R2) (h : D → D → M (List D)) : Prop :=
  ∀ W σ H S μ A x y dx dy Q, Wd K mg S μ A H → RB K H S μ x dx → RB K H S μ y dy → EPost K mg H S μ W σ (rF K) Q (h dx dy A) → r x y H Q
def SndU (K : PySem.W.Frag) (mg : Str → Option Value) (r : V → Hp → VK → Prop) (h : D → M D) : Prop :=
  ∀ W σ H S μ A x dx Q, Wd K mg S μ A H → RB K H S μ x dx → EPost K mg H S μ W σ (rE K) Q (h dx A) → r x H Q
theorem RB.nxt {H S H' S' : Hp} {μ μ' : List Addr} {A' : AS} (n : Nxt K mg H S μ A' H' S' μ') {v : V} {d : D} (h : RB K H S μ v d) : RB K H' S' μ' v d := by
  cases h with
  | rp h => exact .rp (n.rp h)
  | ow h hm r => exact .ow (n.fr _ _ h hm) (n.notMu (by rw [h]; exact fun z => nomatch z) hm) (n.rpA r)
  | @od p vs ds h hm r =>
    have q : H' p = H p := by
      cases h with
      | k h => rw [n.fr p _ h hm, h]
      | t h => rw [n.fr p _ h hm, h]
    exact .od (h.at q) (n.notMu h.some hm) (n.rpV r)
theorem RBs.nxt {H S H' S' : Hp} {μ μ' : List Addr} {A' : AS} (n : Nxt K mg H S μ A' H' S' μ') : ∀ {v : List V} {d : List D}, RBs K H S μ v d → RBs K H' S' μ' v d
  | _, _, .nil => .nil
  | _, _, .cons a b => .cons (a.nxt n) (RBs.nxt n b)
theorem snd_bin {r : R2} {h : D → D → M D} (ha : Snd K mg W (rB K) ta f) (hb : Snd K mg W (rB K) tb g) (hr : SndR2 K mg r h) : Snd K mg W (rE K) (tOp r ta tb) (eBin h f g) := fun B σ δ H S μ A Q s p =>
  ha B σ δ H S μ A _ s (EPost.bind up_E s.h0 p fun x A1 v H1 S1 μ1 n1 r1 p1 =>
    hb B σ δ H1 S1 μ1 A1 _ (s.step n1) (EPost.bind up_E (s.step n1).h0 p1 fun y A2 w H2 S2 μ2 n2 r2 p2 =>
      hr W σ H2 S2 μ2 A2 v w x y Q (s.step n1 |>.step n2).wd (r1.nxt n2) r2 p2))
def eBinF (h : D → D → M (List D)) (f g : Env → M D) : Env → M (List D) := fun δ A => (f δ A).bind fun x A1 => (g δ A1).bind fun y A2 => h x y A2
theorem snd_binF {r : R2} {h : D → D → M (List D)} (ha : Snd K mg W (rB K) ta f) (hb : Snd K mg W (rB K) tb g) (hr : SndR2F K mg r h) : Snd K mg W (rF K) (tOp r ta tb) (eBinF h f g) := fun B σ δ H S μ A Q s p =>
  ha B σ δ H S μ A _ s (EPost.bind up_F s.h0 p fun x A1 v H1 S1 μ1 n1 r1 p1 =>
    hb B σ δ H1 S1 μ1 A1 _ (s.step n1) (EPost.bind up_F (s.step n1).h0 p1 fun y A2 w H2 S2 μ2 n2 r2 p2 =>
      hr W σ H2 S2 μ2 A2 v w x y Q (s.step n1 |>.step n2).wd (r1.nxt n2) r2 p2))
theorem snd_un {r : V → Hp → VK → Prop} {h : D → M D} (ha : Snd K mg W (rB K) ta f) (hr : SndU K mg r h) : Snd K mg W (rE K) (tUn r ta) (eUn h f) := fun B σ δ H S μ A Q s p =>
  ha B σ δ H S μ A _ s (EPost.bind up_E s.h0 p fun x A1 v H1 S1 μ1 n1 r1 p1 => hr W σ H1 S1 μ1 A1 v x Q (s.step n1).wd r1 p1)
theorem pu_bin {op : Operator} {r : R2} {h : D → D → M D} {pos : Pos} (ho : OpR X (binaryOp op) r) (hr : SndR2 X.K X.mg r h) (ha : PuB X W a ta f) (hb : PuB X W b tb g) : PuE X W (.BinOp a op b pos) (tOp r ta tb) (eBin h f g) :=
  ⟨pe_op ho ha.der hb.der, snd_bin ha.snd hb.snd hr⟩
theorem pu_binF {op : Operator} {r : R2} {h : D → D → M (List D)} {pos : Pos} (ho : OpR X (binaryOp op) r) (hr : SndR2F X.K X.mg r h) (ha : PuB X W a ta f) (hb : PuB X W b tb g) : PuF X W (.BinOp a op b pos) (tOp r ta tb) (eBinF h f g) :=
  ⟨pe_op ho ha.der hb.der, snd_binF ha.snd hb.snd hr⟩
theorem pu_cmp {op : CmpOp} {r : R2} {h : D → D → M D} {pos : Pos} (ho : OpR X (compareOp op) r) (hr : SndR2 X.K X.mg r h) (ha : PuB X W a ta f) (hb : PuB X W b tb g) (hm : behindInMarks op b = false) : PuE X W (.Compare a [op] [b] pos) (tOp r ta tb) (eBin h f g) :=
  ⟨pe_cmpR ho ha.der hb.der hm, snd_bin ha.snd hb.snd hr⟩
theorem pu_un {op : UnaryOp} {r : V → Hp → VK → Prop} {h : D → M D} {pos : Pos} (ho : UnR X (unaryOp op) r) (hr : SndU X.K X.mg r h) (ha : PuB X W a ta f) : PuE X W (.UnaryOp op a pos) (tUn r ta) (eUn h f) :=
  ⟨pe_un ho ha.der, snd_un ha.snd hr⟩
/-- a value as a test -/
def tst (f : Env → M D) : Env → M Bool := fun δ A => (f δ A).bind fun d A1 => match d with
  | .bl k => .ok k A1
  | _ => .un
theorem rp_bl {S : Hp} {μ : List Addr} {v : V} {k : Bool} (h : Rp K S μ v (.bl k)) : v = .bl k := by cases h; rfl
theorem rp_int {S : Hp} {μ : List Addr} {v : V} {k : Int} (h : Rp K S μ v (.int k)) : v = .int k := by cases h; rfl
theorem rp_str {S : Hp} {μ : List Addr} {v : V} {k : Str} (h : Rp K S μ v (.str k)) : v = .str k := by cases h; rfl
theorem rp_non {S : Hp} {μ : List Addr} {v : V} (h : Rp K S μ v .non) : v = .non := by cases h; rfl
theorem rb_bl {H S : Hp} {μ : List Addr} {v : V} {k : Bool} (h : RB K H S μ v (.bl k)) : v = .bl k := by cases h with | rp h => exact rp_bl h
theorem rb_int {H S : Hp} {μ : List Addr} {v : V} {k : Int} (h : RB K H S μ v (.int k)) : v = .int k := by cases h with | rp h => exact rp_int h
theorem rb_str {H S : Hp} {μ : List Addr} {v : V} {k : Str} (h : RB K H S μ v (.str k)) : v = .str k := by cases h with | rp h => exact rp_str h
theorem rb_non {H S : Hp} {μ : List Addr} {v : V} (h : RB K H S μ v .non) : v = .non := by cases h with | rp h => exact rp_non h
theorem rb_tup {H S : Hp} {μ : List Addr} {v : V} {ds : List D} (h : RB K H S μ v (.tup ds)) : ∃ a vs, v = .ref a ∧ SqT K S a vs ∧ RpA K S μ vs ds := by
  cases h with
  | rp h => cases h with | tup a b => exact ⟨_, _, rfl, a, b⟩
theorem rb_lst {A : AS} {H S : Hp} {μ : List Addr} {v : V} {ds : List D} (w : Wd K mg S μ A H) (h : RB K H S μ v (.lst ds)) : ∃ a vs, v = .ref a ∧ H a = some (.lst vs) ∧ RpA K S μ vs ds := by
  cases h with
  | rp h => cases h with | lst a b => exact ⟨_, _, rfl, w.sub _ _ a, b⟩
  | ow h _ r => exact ⟨_, _, rfl, h, r⟩
/-- the list that a value is, or that stands at a cell -/
def asL (A : AS) : D → Option (List D)
  | .lst xs => some xs
  | .ref n => match A[n]? with
    | some (.lst xs) => some xs
    | _ => none
  | _ => none
/-- .. also one that may be read only -/
def asR (A : AS) : D → Option (List D)
  | .scr xs => some xs
  | d => asL A d
theorem as_lst {A : AS} {H S : Hp} {μ : List Addr} {v : V} {d : D} {ds : List D} (w : Wd K mg S μ A H) (h : RB K H S μ v d) (e : asL A d = some ds) : ∃ a vs, v = .ref a ∧ H a = some (.lst vs) ∧ RpA K S μ vs ds := by
  cases d with
  | lst xs =>
    have e' : xs = ds := Option.some.inj e
    subst e'
    exact rb_lst w h
  | ref n =>
    unfold asL at e
    dsimp only at e
    split at e
    · rename_i xs hx
      have e' : xs = ds := Option.some.inj e
      subst e'
      cases h with
      | rp h =>
        cases h with
        | ref hm =>
          obtain ⟨vs, h1, h2⟩ := w.cell n _ _ hx hm
          exact ⟨_, vs, rfl, h1, h2⟩
    · cases e
  | _ => cases e
theorem as_rd {A : AS} {H S : Hp} {μ : List Addr} {v : V} {d : D} {ds : List D} (w : Wd K mg S μ A H) (h : RB K H S μ v d) (e : asR A d = some ds) : ∃ a vs, v = .ref a ∧ SqL K H a vs ∧ RpA K S μ vs ds := by
  cases d with
  | scr xs =>
    have e' : xs = ds := Option.some.inj e
    subst e'
    cases h with
    | rp h => cases h with | scr a b => exact ⟨_, _, rfl, Same.seq w.sub a, b⟩
  | lst xs => obtain ⟨a, vs, h1, h2, h3⟩ := as_lst w h e; exact ⟨a, vs, h1, .inl (.inl h2), h3⟩
  | ref n => obtain ⟨a, vs, h1, h2, h3⟩ := as_lst w h e; exact ⟨a, vs, h1, .inl (.inl h2), h3⟩
  | _ => cases e
theorem snd_tst (h : Snd K mg W (rE K) te f) : Snd K mg W rT (tTest te) (tst f) := fun B σ δ H S μ A Q s p =>
  h B σ δ H S μ A _ s (EPost.bind up_T s.h0 p fun x A1 v H1 S1 μ1 n1 r1 p1 => by
    cases x with
    | bl k => exact ⟨k, rp_bl r1, p1 k H1 S1 μ1 (Nxt.refl n1.wd) rfl⟩
    | _ => exact p1.elim)
theorem pt_cmp1 {op : CmpOp} {r : R2} {h : D → D → M D} {pos : Pos} (ho : OpR X (compareOp op) r) (hr : SndR2 X.K X.mg r h) (ha : PuB X W a ta f) (hb : PuB X W b tb g) (hm : behindInMarks op b = false) : PuT X W (.Compare a [op] [b] pos) (tTest (tOp r ta tb)) (tst (eBin h f g)) :=
  ⟨pt_cmpR ho ha.der hb.der hm, snd_tst (snd_bin ha.snd hb.snd hr)⟩
theorem pt_valE {e : Expr} (h : PuE X W e te f) (he : ∀ whole, isTrue e X.env whole = (do let v ← whole; standAt e.pos; holding [v] (truthy v)) := by intro _; rfl) : PuT X W e (tB te) (tst f) := ⟨pt_val h.der he, snd_tst h.snd⟩
def cAnd (f g : Env → M Bool) : Env → M Bool := fun δ A => (f δ A).bind fun x A1 => if x = true then g δ A1 else .ok false A1
def cOr (f g : Env → M Bool) : Env → M Bool := fun δ A => (f δ A).bind fun x A1 => if x = true then .ok true A1 else g δ A1
def cNot (f : Env → M Bool) : Env → M Bool := fun δ A => (f δ A).bind fun x A1 => .ok (!x) A1
variable {f' g' : Env → M Bool}
theorem snd_and (ha : Snd K mg W rT t f') (hb : Snd K mg W rT u g') : Snd K mg W rT (tAnd t u) (cAnd f' g') := fun B σ δ H S μ A Q s p =>
  ha B σ δ H S μ A _ s (EPost.bind up_T s.h0 p fun x A1 v H1 S1 μ1 n1 r1 p1 => by
    cases r1
    cases x with
    | true => rw [if_pos rfl] at p1 ⊢; exact hb B σ δ H1 S1 μ1 A1 Q (s.step n1) p1
    | false => rw [if_neg Bool.false_ne_true] at p1 ⊢; exact p1 false H1 S1 μ1 (Nxt.refl n1.wd) rfl)
theorem snd_or (ha : Snd K mg W rT t f') (hb : Snd K mg W rT u g') : Snd K mg W rT (tOr t u) (cOr f' g') := fun B σ δ H S μ A Q s p =>
  ha B σ δ H S μ A _ s (EPost.bind up_T s.h0 p fun x A1 v H1 S1 μ1 n1 r1 p1 => by
    cases r1
    cases x with
    | false => rw [if_neg Bool.false_ne_true] at p1 ⊢; exact hb B σ δ H1 S1 μ1 A1 Q (s.step n1) p1
    | true => rw [if_pos rfl] at p1 ⊢; exact p1 true H1 S1 μ1 (Nxt.refl n1.wd) rfl)
theorem snd_not (ha : Snd K mg W rT t f') : Snd K mg W rT (tNot t) (cNot f') := fun B σ δ H S μ A Q s p =>
  ha B σ δ H S μ A _ s (EPost.bind up_T s.h0 p fun x A1 v H1 S1 μ1 n1 r1 p1 => by
    cases r1
    exact p1 (!x) H1 S1 μ1 (Nxt.refl n1.wd) rfl)
variable {rest : List Expr} {pos : Pos}
theorem PuW.pt (h : PuW X W e t f') : PuT X W e t f' := ⟨h.der.pt, h.snd⟩
theorem pw1_and (h : PuT X W a t f') : PuW X W (.BoolOp .And [a] pos) t f' := ⟨pw_and1 h.der, h.snd⟩
theorem pw1_or (h : PuT X W a t f') : PuW X W (.BoolOp .Or [a] pos) t f' := ⟨pw_or1 h.der, h.snd⟩
theorem pw2_and (ha : PuT X W a t f') (hb : PuW X W (.BoolOp .And (b :: rest) pos) u g') : PuW X W (.BoolOp .And (a :: b :: rest) pos) (tAnd t u) (cAnd f' g') := ⟨pw_and ha.der hb.der, snd_and ha.snd hb.snd⟩
theorem pw2_or (ha : PuT X W a t f') (hb : PuW X W (.BoolOp .Or (b :: rest) pos) u g') : PuW X W (.BoolOp .Or (a :: b :: rest) pos) (tOr t u) (cOr f' g') := ⟨pw_or ha.der hb.der, snd_or ha.snd hb.snd⟩
theorem ptn_not (ha : PuT X W a t f') : PuT X W (.UnaryOp .Not a pos) (tNot t) (cNot f') := ⟨pt_not ha.der, snd_not ha.snd⟩
/-! .. as values -/
def eAnd (f g : Env → M D) : Env → M D := fun δ A => (f δ A).bind fun x A1 => match x with
  | .bl true => g δ A1
  | .bl false => .ok (.bl false) A1
  | _ => .un
def eOr (f g : Env → M D) : Env → M D := fun δ A => (f δ A).bind fun x A1 => match x with
  | .bl true => .ok (.bl true) A1
  | .bl false => g δ A1
  | _ => .un
def eNot (f : Env → M D) : Env → M D := fun δ A => (f δ A).bind fun x A1 => match x with
  | .bl k => .ok (.bl (!k)) A1
  | _ => .un
theorem pu_one {op} (h : PuE X W a ta f) : PuE X W (.BoolOp op [a] pos) ta f := ⟨pe_one h.der, h.snd⟩
theorem pu_and (ha : PuE X W a ta f) (hb : PuE X W (.BoolOp .And (b :: rest) pos) tb g) : PuE X W (.BoolOp .And (a :: b :: rest) pos) (tAndV ta tb) (eAnd f g) := ⟨pe_and ha.der hb.der, fun B σ δ H S μ A Q s p =>
  ha.snd B σ δ H S μ A _ s (EPost.bind up_E s.h0 p fun x A1 v H1 S1 μ1 n1 r1 p1 => by
    cases x with
    | bl k =>
      refine ⟨k, rp_bl r1, ?_⟩
      cases k with
      | true => rw [if_pos rfl]; exact hb.snd B σ δ H1 S1 μ1 A1 Q (s.step n1) p1
      | false => rw [if_neg Bool.false_ne_true]; exact p1 _ H1 S1 μ1 (Nxt.refl n1.wd) (.bl false)
    | _ => exact p1.elim)⟩
theorem pu_or (ha : PuE X W a ta f) (hb : PuE X W (.BoolOp .Or (b :: rest) pos) tb g) : PuE X W (.BoolOp .Or (a :: b :: rest) pos) (tOrV ta tb) (eOr f g) := ⟨pe_or ha.der hb.der, fun B σ δ H S μ A Q s p =>
  ha.snd B σ δ H S μ A _ s (EPost.bind up_E s.h0 p fun x A1 v H1 S1 μ1 n1 r1 p1 => by
    cases x with
    | bl k =>
      refine ⟨k, rp_bl r1, ?_⟩
      cases k with
      | false => rw [if_neg Bool.false_ne_true]; exact hb.snd B σ δ H1 S1 μ1 A1 Q (s.step n1) p1
      | true => rw [if_pos rfl]; exact p1 _ H1 S1 μ1 (Nxt.refl n1.wd) (.bl true)
    | _ => exact p1.elim)⟩
theorem pu_not (ha : PuE X W a ta f) : PuE X W (.UnaryOp .Not a pos) (tNotV ta) (eNot f) := ⟨pe_not ha.der, fun B σ δ H S μ A Q s p =>
  ha.snd B σ δ H S μ A _ s (EPost.bind up_E s.h0 p fun x A1 v H1 S1 μ1 n1 r1 p1 => by
    cases x with
    | bl k => exact ⟨k, rp_bl r1, p1 _ H1 S1 μ1 (Nxt.refl n1.wd) (.bl _)⟩
    | _ => exact p1.elim)⟩
def eIf (c : Env → M Bool) (f g : Env → M D) : Env → M D := fun δ A => (c δ A).bind fun x A1 => if x = true then f δ A1 else g δ A1
theorem pu_if (hc : PuT X W c t f') (ha : PuE X W a ta f) (hb : PuE X W b tb g) : PuE X W (.IfExp c a b pos) (tIf t ta tb) (eIf f' f g) := ⟨pe_ifExp hc.der ha.der hb.der, fun B σ δ H S μ A Q s p =>
  hc.snd B σ δ H S μ A _ s (EPost.bind up_E s.h0 p fun x A1 (v : Bool) H1 S1 μ1 n1 r1 p1 => by
    cases r1
    cases x with
    | true => rw [if_pos rfl] at p1 ⊢; exact ha.snd B σ δ H1 S1 μ1 A1 Q (s.step n1) p1
    | false => rw [if_neg Bool.false_ne_true] at p1 ⊢; exact hb.snd B σ δ H1 S1 μ1 A1 Q (s.step n1) p1)⟩
def eIfF (c : Env → M Bool) (f g : Env → M (List D)) : Env → M (List D) := fun δ A => (c δ A).bind fun x A1 => if x = true then f δ A1 else g δ A1
theorem pu_ifF {f g : Env → M (List D)} (hc : PuT X W c t f') (ha : PuF X W a ta f) (hb : PuF X W b tb g) : PuF X W (.IfExp c a b pos) (tIf t ta tb) (eIfF f' f g) := ⟨pe_ifExp hc.der ha.der hb.der, fun B σ δ H S μ A Q s p =>
  hc.snd B σ δ H S μ A _ s (EPost.bind up_F s.h0 p fun x A1 (v : Bool) H1 S1 μ1 n1 r1 p1 => by
    cases r1
    cases x with
    | true => rw [if_pos rfl] at p1 ⊢; exact ha.snd B σ δ H1 S1 μ1 A1 Q (s.step n1) p1
    | false => rw [if_neg Bool.false_ne_true] at p1 ⊢; exact hb.snd B σ δ H1 S1 μ1 A1 Q (s.step n1) p1)⟩
/-- a op1 b op2 c -/
def eChain (h h' : D → D → M D) (f g k : Env → M D) : Env → M D := fun δ A => (f δ A).bind fun x A1 => (g δ A1).bind fun y A2 => (h x y A2).bind fun z A3 => match z with
  | .bl true => (k δ A3).bind fun w A4 => h' y w A4
  | .bl false => .ok (.bl false) A3
  | _ => .un
theorem snd_chain {r r' : R2} {h h' : D → D → M D} {k : Env → M D} (ha : Snd K mg W (rB K) ta f) (hb : Snd K mg W (rB K) tb g) (hc : Snd K mg W (rB K) tc k) (hr : SndR2 K mg r h) (hr' : SndR2 K mg r' h') :
    Snd K mg W (rE K) (tChain r r' ta tb tc) (eChain h h' f g k) := fun B σ δ H S μ A Q s p =>
  ha B σ δ H S μ A _ s (EPost.bind up_E s.h0 p fun x A1 v H1 S1 μ1 n1 r1 p1 =>
    hb B σ δ H1 S1 μ1 A1 _ (s.step n1) (EPost.bind up_E (s.step n1).h0 p1 fun y A2 w H2 S2 μ2 n2 r2 p2 =>
      hr W σ H2 S2 μ2 A2 v w x y _ (s.step n1 |>.step n2).wd (r1.nxt n2) r2 (EPost.bind up_E (s.step n1 |>.step n2).h0 p2 fun z A3 q H3 S3 μ3 n3 r3 p3 => by
        have s3 := (s.step n1 |>.step n2).step n3
        cases z with
        | bl c =>
          refine ⟨c, rp_bl r3, ?_⟩
          cases c with
          | false => rw [if_neg Bool.false_ne_true]; exact p3 _ H3 S3 μ3 (Nxt.refl n3.wd) (.bl false)
          | true =>
            rw [if_pos rfl]
            exact hc B σ δ H3 S3 μ3 A3 _ s3 (EPost.bind up_E s3.h0 p3 fun w' A4 q' H4 S4 μ4 n4 r4 p4 =>
              hr' W σ H4 S4 μ4 A4 w q' y w' Q (s3.step n4).wd ((r2.nxt n3).nxt n4) r4 p4)
        | _ => exact p3.elim)))
theorem pu_chain {op op' : CmpOp} {r r' : R2} {h h' : D → D → M D} {k : Env → M D} (ho : OpR X (compareOp op) r) (hr : SndR2 X.K X.mg r h) (ho' : OpR X (compareOp op') r') (hr' : SndR2 X.K X.mg r' h') (ha : PuB X W a ta f) (hb : PuB X W b tb g) (hc : PuB X W c tc k)
    (hm : lastMarks [op, op'] [b, c] = false := by with_unfolding_all rfl) : PuE X W (.Compare a [op, op'] [b, c] pos) (tChain r r' ta tb tc) (eChain h h' f g k) := ⟨pe_chain ho ho' ha.der hb.der hc.der hm, snd_chain ha.snd hb.snd hc.snd hr hr'⟩
theorem pt_chainE {op op' : CmpOp} {r r' : R2} {h h' : D → D → M D} {k : Env → M D} (ho : OpR X (compareOp op) r) (hr : SndR2 X.K X.mg r h) (ho' : OpR X (compareOp op') r') (hr' : SndR2 X.K X.mg r' h') (ha : PuB X W a ta f) (hb : PuB X W b tb g) (hc : PuB X W c tc k)
    (hm : lastMarks [op, op'] [b, c] = false := by with_unfolding_all rfl) : PuT X W (.Compare a [op, op'] [b, c] pos) (tTest (tChain r r' ta tb tc)) (tst (eChain h h' f g k)) := ⟨pt_chain ho ho' ha.der hb.der hc.der hm, snd_tst (snd_chain ha.snd hb.snd hc.snd hr hr')⟩

/-! ### arguments, displays -/
def aNil : Env → M (List D) := fun _ A => .ok [] A
def aCons (f : Env → M D) (g : Env → M (List D)) : Env → M (List D) := fun δ A => (f δ A).bind fun x A1 => (g δ A1).bind fun xs A2 => .ok (x :: xs) A2
variable {es : List Expr} {tA tR : TA} {fa : Env → M (List D)}
theorem pu_nil : PuA X W [] tNil aNil := ⟨pa_nil, fun B σ δ H S μ A Q s p => p [] H S μ (Nxt.refl s.wd) .nil⟩
theorem pu_cons (ha : PuE X W e te f) (hr : PuA X W es tR fa) (hs : starEach (e :: es) X.env = (false, eval e X.env) :: starEach es X.env := by rfl) : PuA X W (e :: es) (tCons te tR) (aCons f fa) := ⟨pa_cons ha.der hr.der hs, fun B σ δ H S μ A Q s p =>
  ha.snd B σ δ H S μ A _ s (EPost.bind up_A s.h0 p fun x A1 v H1 S1 μ1 n1 r1 p1 =>
    hr.snd B σ δ H1 S1 μ1 A1 _ (s.step n1) (EPost.bind up_A (s.step n1).h0 p1 fun y A2 w H2 S2 μ2 n2 r2 p2 =>
      p2 (v :: w) H2 S2 μ2 (Nxt.refl n2.wd) (.cons (n2.rp r1) r2)))⟩
theorem pc_nil : PuC X W [] tNil aNil := ⟨pa_nil, fun B σ δ H S μ A Q s p => p [] H S μ (Nxt.refl s.wd) .nil⟩
theorem up_Bs {K : PySem.W.Frag} : Up (rBs K) := fun _ _ _ _ _ _ _ _ h => h
theorem pc_cons (ha : PuB X W e te f) (hr : PuC X W es tR fa) (hs : starEach (e :: es) X.env = (false, eval e X.env) :: starEach es X.env := by rfl) : PuC X W (e :: es) (tCons te tR) (aCons f fa) := ⟨pa_cons ha.der hr.der hs, fun B σ δ H S μ A Q s p =>
  ha.snd B σ δ H S μ A _ s (EPost.bind up_Bs s.h0 p fun x A1 v H1 S1 μ1 n1 r1 p1 =>
    hr.snd B σ δ H1 S1 μ1 A1 _ (s.step n1) (EPost.bind up_Bs (s.step n1).h0 p1 fun y A2 w H2 S2 μ2 n2 r2 p2 =>
      p2 (v :: w) H2 S2 μ2 (Nxt.refl n2.wd) (.cons (r1.nxt n2) r2)))⟩
/-- decided by no reckoning: the kernel must not count that far -/
def szOk (n : Nat) : Bool := @decide (n ≤ 16777216) (Classical.propDecidable _)
theorem szOk_le {n : Nat} (h : szOk n = true) : n ≤ sizeLine := by
  rw [sizeLine_eq]
  exact @of_decide_eq_true _ (Classical.propDecidable _) h
def eTup (fa : Env → M (List D)) : Env → M D := fun δ A => (fa δ A).bind fun ds A1 => if szOk ds.length = true then .ok (.tup ds) A1 else .un
def eLst (fa : Env → M (List D)) : Env → M (List D) := fun δ A => (fa δ A).bind fun ds A1 => if szOk ds.length = true then .ok ds A1 else .un
theorem pu_tup {x1} (h : PuA X W es tA fa) : PuE X W (.Tuple es x1 pos) (tTup tA) (eTup fa) := ⟨pe_tup h.der, fun B σ δ H S μ A Q s p =>
  h.snd B σ δ H S μ A _ s (EPost.bind up_E s.h0 p fun x A1 v H1 S1 μ1 n1 r1 p1 => by
    by_cases hz : szOk x.length = true
    · rw [if_pos hz] at p1
      refine ⟨by rw [r1.length]; exact szOk_le hz, fun q hq => ?_⟩
      have hS := n1.wd.freeS hq
      exact p1 _ _ _ _ (Nxt.new n1.wd hq) (.tup (.inl (.inl upd_same)) (r1.sub (same_upd hS)))
    · rw [if_neg hz] at p1
      exact p1.elim)⟩
theorem pu_lstF (h : PuA X W es tA fa) : PuF X W (.List es pos) (tLst tA) (eLst fa) := ⟨pe_lst h.der, fun B σ δ H S μ A Q s p =>
  h.snd B σ δ H S μ A _ s (EPost.bind up_F s.h0 p fun x A1 v H1 S1 μ1 n1 r1 p1 => by
    by_cases hz : szOk x.length = true
    · rw [if_pos hz] at p1
      refine ⟨by rw [r1.length]; exact szOk_le hz, fun q hq => ?_⟩
      exact p1 _ _ _ _ (Nxt.own n1.wd hq) ⟨q, v, rfl, hq, upd_same, n1.wd.freeS hq, fun z => n1.wd.there z hq, r1⟩
    · rw [if_neg hz] at p1
      exact p1.elim)⟩
/-- a list that is to change, as a cell -/
def eCell (fa : Env → M (List D)) : Env → M D := fun δ A => (fa δ A).bind fun ds A1 => .ok (.ref A1.length) (A1 ++ [.lst ds])
theorem Nxt.cellL {H S : Hp} {μ : List Addr} {A : AS} {H0 S0 : Hp} {μ0 : List Addr} {p : Addr} {vs : List V} {ds : List D} (n : Nxt K mg H0 S0 μ0 A H S μ) (hp : H p = some (.lst vs)) (h0 : H0 p = none) (hs : S p = none) (hm : p ∉ μ) (r : RpA K S μ vs ds) :
    Nxt K mg H0 S0 μ0 (A ++ [.lst ds]) H S (μ ++ [p]) := by
  obtain ⟨e, he, hf⟩ := n.mu
  refine ⟨⟨n.wd.sub, by rw [List.length_append, List.length_append, n.wd.len]; rfl, ?_, fun a ha => ?_, fun k c a h1 h2 => ?_⟩, n.sub, ⟨e ++ [p], by rw [he, List.append_assoc], fun a ha => ?_⟩, n.fr, n.nw⟩
  · rw [List.nodup_append]
    refine ⟨n.wd.nd, List.pairwise_singleton _ _, fun a ha b hb => ?_⟩
    rw [List.mem_singleton.mp hb]
    exact fun z => hm (by rw [← z]; exact ha)
  · rcases List.mem_append.mp ha with ha | ha
    · exact n.wd.off a ha
    · rw [List.mem_singleton.mp ha]; exact hs
  · by_cases hk : k < A.length
    · rw [List.getElem?_append_left hk] at h1
      rw [List.getElem?_append_left (by rw [n.wd.len]; exact hk)] at h2
      exact (n.wd.cell k c a h1 h2).mono (Same.refl _) rfl
    · have hk' : k = A.length := by
        have := (List.getElem?_eq_some_iff.mp h1).1
        rw [List.length_append, List.length_singleton] at this
        omega
      subst hk'
      rw [List.getElem?_append_right (Nat.le_refl _), Nat.sub_self] at h1
      rw [← n.wd.len, List.getElem?_append_right (Nat.le_refl _), Nat.sub_self] at h2
      cases h1
      cases h2
      exact ⟨vs, hp, r.mono (Same.refl _)⟩
  · rcases List.mem_append.mp ha with ha | ha
    · exact hf a ha
    · rw [List.mem_singleton.mp ha]; exact h0
theorem PuF.cell {f : Env → M (List D)} (h : PuF X W e te f) : PuE X W e te (eCell f) := ⟨h.der, fun B σ δ H S μ A Q s p => h.snd B σ δ H S μ A Q s (by
  unfold eCell at p
  generalize f δ A = r at p
  cases r with
  | un => exact p
  | ok ds A' =>
    intro v H' S' μ' n ⟨q, vs, e, h1, h2, h3, h4, r⟩
    subst e
    refine p (.ref q) H' S' (μ' ++ [q]) (n.cellL h2 h1 h3 h4 r) (.ref ?_)
    rw [← n.wd.len, List.getElem?_append_right (Nat.le_refl _), Nat.sub_self]
    rfl
  | ex e A' => exact p)⟩
end
end Pv

noncomputable section
namespace Pv
open PySem PySem.Spec L2
open PyProof.Rows hiding St

/-! ### operators on values -/
def mulOk (i j : Int) : Bool := @decide (i.natAbs.log2 + j.natAbs.log2 < 1000000) (Classical.propDecidable _)
def divOk (j : Int) : Bool := @decide (0 < j ∧ j.natAbs.log2 < 9000) (Classical.propDecidable _)
def addD : D → D → M D
  | .int i, .int j => fun A => .ok (.int (i + j)) A
  | .int i, .bl k => fun A => .ok (.int (i + b2i k)) A
  | .str x, .str y => fun A => if szOk (x.length + y.length) = true then .ok (.str (x ++ y)) A else .un
  | .tup xs, .tup ys => fun A => if szOk (xs.length + ys.length) = true then .ok (.tup (xs ++ ys)) A else .un
  | x, y => fun A => match asL A x, asL A y with
    | some xs, some ys => if szOk (xs.length + ys.length) = true then .ok (.lst (xs ++ ys)) A else .un
    | _, _ => .un
def catD (x y : D) : M (List D) := fun A => match asL A x, asL A y with
  | some xs, some ys => if szOk (xs.length + ys.length) = true then .ok (xs ++ ys) A else .un
  | _, _ => .un
def subD : D → D → M D
  | .int i, .int j => fun A => .ok (.int (i - j)) A
  | .bl i, .bl j => fun A => .ok (.int (b2i i - b2i j)) A
  | _, _ => fun _ => .un
def mulD : D → D → M D
  | .int i, .int j => fun A => if mulOk i j = true then .ok (.int (i * j)) A else .un
  | _, _ => fun _ => .un
def fdivD : D → D → M D
  | .int i, .int j => fun A => if divOk j = true then .ok (.int (i / j)) A else .un
  | _, _ => fun _ => .un
def modD : D → D → M D
  | .int i, .int j => fun A => if decide (0 < j) = true then .ok (.int (i % j)) A else .un
  | _, _ => fun _ => .un
def powD : D → D → M D
  | .int i, .int j => fun A => if decide (0 ≤ j ∧ j ≤ 1000000 ∧ i.natAbs < 2 ^ 64) = true then .ok (.int (i ^ j.toNat)) A else .un
  | _, _ => fun _ => .un
def negD : D → M D
  | .int i => fun A => .ok (.int (-i)) A
  | _ => fun _ => .un
def ltD : D → D → M D
  | .int i, .int j => fun A => .ok (.bl (decide (i < j))) A
  | .str x, .str y => fun A => .ok (.bl (decide (x.cps.toList < y.cps.toList))) A
  | _, _ => fun _ => .un
def leD : D → D → M D
  | .int i, .int j => fun A => .ok (.bl (decide (i ≤ j))) A
  | .str x, .str y => fun A => .ok (.bl (!decide (y.cps.toList < x.cps.toList))) A
  | _, _ => fun _ => .un
def gtD : D → D → M D
  | .int i, .int j => fun A => .ok (.bl (decide (j < i))) A
  | .str x, .str y => fun A => .ok (.bl (decide (y.cps.toList < x.cps.toList))) A
  | _, _ => fun _ => .un
def geD : D → D → M D
  | .int i, .int j => fun A => .ok (.bl (decide (j ≤ i))) A
  | .str x, .str y => fun A => .ok (.bl (!decide (x.cps.toList < y.cps.toList))) A
  | _, _ => fun _ => .un
def isNonD : D → Bool
  | .non => true
  | _ => false
def isN : D → D → M D
  | x, .non => fun A => .ok (.bl (isNonD x)) A
  | _, _ => fun _ => .un
def notN : D → D → M D
  | x, .non => fun A => .ok (.bl (!isNonD x)) A
  | _, _ => fun _ => .un
mutual
def D.py : D → PyData
  | .non => .none
  | .bl b => .bool b
  | .int i => .int i
  | .str x => .str x
  | .tup xs => .tuple (D.pys xs)
  | .lst xs => .list (D.pys xs)
  | .scr xs => .list (D.pys xs)
  | .dic _ => .none
  | .ref _ => .none
def D.pys : List D → List PyData
  | [] => []
  | x :: xs => D.py x :: D.pys xs
end
mutual
/-- data without cells and dicts -/
def D.plain : D → Bool
  | .non => true
  | .bl _ => true
  | .int _ => true
  | .str _ => true
  | .tup xs => D.plains xs
  | .lst xs => D.plains xs
  | .scr xs => D.plains xs
  | .dic _ => false
  | .ref _ => false
def D.plains : List D → Bool
  | [] => true
  | x :: xs => D.plain x && D.plains xs
end
def shp (d : D) : Bool := D.plain d && SeqAt.shaped (D.py d)
def flatD : D → Bool
  | .non => true
  | .bl _ => true
  | .int _ => true
  | .str _ => true
  | _ => false
/-- == -/
def eqD (x y : D) : M D := fun A => if (flatD x && flatD y) = true then .ok (.bl (PyData.eqv x.py y.py)) A else if (shp x && shp y) = true then .ok (.bl (PyData.eqv x.py y.py)) A else .un
def neD (x y : D) : M D := fun A => if (flatD x && flatD y) = true then .ok (.bl (!PyData.eqv x.py y.py)) A else if (shp x && shp y) = true then .ok (.bl (!PyData.eqv x.py y.py)) A else .un

section
variable {K : PySem.W.Frag} {mg : Str → Option Value} {S H : Hp} {μ : List Addr} {A : AS}
mutual
theorem dp_of (w : Same S H) : ∀ {d : D} {v : V}, Rp K S μ v d → D.plain d = true → Dp K H v d.py
  | _, _, .non, _ => by unfold D.py; exact .non
  | _, _, .bl b, _ => by unfold D.py; exact .bl b
  | _, _, .int i, _ => by unfold D.py; exact .int i
  | _, _, .str x, _ => by unfold D.py; exact .str x
  | _, _, .tup a b, h => by
    unfold D.py
    unfold D.plain at h
    exact .tup (Same.sqT w a) (dpA_of w b h)
  | _, _, .lst a b, h => by
    unfold D.py
    unfold D.plain at h
    exact .lst (.inl (.inl (w _ _ a))) (dpA_of w b h)
  | _, _, .scr a b, h => by
    unfold D.py
    unfold D.plain at h
    exact .lst (Same.seq w a) (dpA_of w b h)
  | _, _, .dic a b, h => by
    unfold D.plain at h
    cases h
  | _, _, .ref a, h => by
    unfold D.plain at h
    cases h
theorem dpA_of (w : Same S H) : ∀ {ds : List D} {vs : List V}, RpA K S μ vs ds → D.plains ds = true → DpAll K H vs (D.pys ds)
  | _, _, .nil, _ => by unfold D.pys; exact .nil
  | _, _, .cons a b, h => by
    unfold D.plains at h
    rw [Bool.and_eq_true] at h
    unfold D.pys
    exact .cons (dp_of w a h.1) (dpA_of w b h.2)
end
/-- data looked at -/
theorem dp_rb (w : Wd K mg S μ A H) {d : D} {v : V} (h : RB K H S μ v d) (hp : D.plain d = true) : Dp K H v d.py := by
  cases h with
  | rp h => exact dp_of w.sub h hp
  | ow h _ r =>
    unfold D.py
    unfold D.plain at hp
    exact .lst (.inl (.inl h)) (dpA_of w.sub r hp)
  | od _ _ _ =>
    unfold D.plain at hp
    cases hp
theorem flat_v {d : D} {v : V} (h : RB K H S μ v d) (hf : flatD d = true) : flatV v = true ∧ (d = .non ∧ v = .non ∨ (∃ b, d = .bl b ∧ v = .bl b) ∨ (∃ b, d = .int b ∧ v = .int b) ∨ ∃ b, d = .str b ∧ v = .str b) := by
  cases d with
  | non => rw [rb_non h]; exact ⟨rfl, .inl ⟨rfl, rfl⟩⟩
  | bl b => rw [rb_bl h]; exact ⟨rfl, .inr (.inl ⟨_, rfl, rfl⟩)⟩
  | int b => rw [rb_int h]; exact ⟨rfl, .inr (.inr (.inl ⟨_, rfl, rfl⟩))⟩
  | str b => rw [rb_str h]; exact ⟨rfl, .inr (.inr (.inr ⟨_, rfl, rfl⟩))⟩
  | _ => cases hf
theorem eqv_flat {x y : D} {v u : V} (hx : RB K H S μ v x) (hy : RB K H S μ u y) (fx : flatD x = true) (fy : flatD y = true) : eqV v u = PyData.eqv x.py y.py := by
  obtain ⟨_, ⟨rfl, rfl⟩ | ⟨a, rfl, rfl⟩ | ⟨a, rfl, rfl⟩ | ⟨a, rfl, rfl⟩⟩ := flat_v hx fx <;> obtain ⟨_, ⟨rfl, rfl⟩ | ⟨b, rfl, rfl⟩ | ⟨b, rfl, rfl⟩ | ⟨b, rfl, rfl⟩⟩ := flat_v hy fy <;> simp only [D.py, eqV, PyData.eqv]
theorem ok_post {W : WW} {σ : L2.St} {Q : VK} {d : D} {v : V} (w : Wd K mg S μ A H) (p : EPost K mg H S μ W σ (rE K) Q (.ok d A)) (r : Rp K S μ v d) : Q v H := p v H S μ (Nxt.refl w) r
theorem new_tup {W : WW} {σ : L2.St} {Q : VK} {ds : List D} {vs : List V} (w : Wd K mg S μ A H) (p : EPost K mg H S μ W σ (rE K) Q (.ok (.tup ds) A)) (r : RpA K S μ vs ds) : ∀ q, H q = none → Q (.ref q) (upd H q (.tup vs)) := fun q hq =>
  p _ _ _ _ (Nxt.new w hq) (.tup (.inl (.inl upd_same)) (r.sub (same_upd (w.freeS hq))))
theorem new_lst {W : WW} {σ : L2.St} {Q : VK} {ds : List D} {vs : List V} (w : Wd K mg S μ A H) (p : EPost K mg H S μ W σ (rE K) Q (.ok (.lst ds) A)) (r : RpA K S μ vs ds) : ∀ q, H q = none → Q (.ref q) (upd H q (.lst vs)) := fun q hq =>
  p _ _ _ _ (Nxt.new w hq) (.lst upd_same (r.sub (same_upd (w.freeS hq))))
theorem new_own {W : WW} {σ : L2.St} {Q : VK} {ds : List D} {vs : List V} (w : Wd K mg S μ A H) (p : EPost K mg H S μ W σ (rF K) Q (.ok ds A)) (r : RpA K S μ vs ds) : ∀ q, H q = none → Q (.ref q) (upd H q (.lst vs)) := fun q hq =>
  p _ _ _ _ (Nxt.own w hq) ⟨q, vs, rfl, hq, upd_same, w.freeS hq, fun z => w.there z hq, r⟩

/-! ### + -/
def rAddAll (K : PySem.W.Frag) : R2 := fun x y H Q => rI0 (fun i j => .int (i + j)) x y H Q ∨ (∃ i k, x = .int i ∧ y = .bl k ∧ Q (.int (i + b2i k)) H) ∨
  (∃ i j, x = .str i ∧ y = .str j ∧ i.length + j.length ≤ sizeLine ∧ Q (.str (i ++ j)) H) ∨ rCatA K x y H Q ∨ rCat x y H Q
theorem op_addAll {X : Cx} : OpR X (binaryOp .Add) (rAddAll X.K) := op_add.or (op_add_ib.or (op_add_str.or (op_catA.or op_cat)))
theorem cat_of {Q : VK} {x y : V} {dx dy : D} {xs ys : List D} (w : Wd K mg S μ A H) (hx : RB K H S μ x dx) (hy : RB K H S μ y dy) (ex : asL A dx = some xs) (ey : asL A dy = some ys) (hz : szOk (xs.length + ys.length) = true)
    (p : ∀ vs, RpA K S μ vs (xs ++ ys) → ∀ q, H q = none → Q (.ref q) (upd H q (.lst vs))) : rCat x y H Q := by
  obtain ⟨a, vs, rfl, ha, ra⟩ := as_lst w hx ex
  obtain ⟨b, us, rfl, hb, rb⟩ := as_lst w hy ey
  exact ⟨a, b, vs, us, rfl, rfl, ha, hb, by rw [ra.length, rb.length]; exact szOk_le hz, p _ (ra.append rb)⟩
theorem snd_add : SndR2 K mg (rAddAll K) addD := by
  intro W σ H S μ A x y dx dy Q w hx hy p
  have gen : ∀ (r : R D), r = (match asL A dx, asL A dy with
    | some xs, some ys => if szOk (xs.length + ys.length) = true then .ok (.lst (xs ++ ys)) A else .un
    | _, _ => .un) → EPost K mg H S μ W σ (rE K) Q r → rAddAll K x y H Q := by
    intro r e p
    cases ex : asL A dx with
    | none => rw [ex] at e; subst e; exact p.elim
    | some xs =>
      cases ey : asL A dy with
      | none => rw [ex, ey] at e; subst e; exact p.elim
      | some ys =>
        rw [ex, ey] at e
        dsimp only at e
        by_cases hz : szOk (xs.length + ys.length) = true
        · rw [if_pos hz] at e
          subst e
          exact .inr (.inr (.inr (.inr (cat_of w hx hy ex ey hz fun vs r => new_lst w p r))))
        · rw [if_neg hz] at e; subst e; exact p.elim
  cases dx with
  | int i =>
    cases dy with
    | int j => rw [rb_int hx, rb_int hy]; exact .inl ⟨i, j, rfl, rfl, ok_post w p (.int _)⟩
    | bl j => rw [rb_int hx, rb_bl hy]; exact .inr (.inl ⟨i, j, rfl, rfl, ok_post w p (.int _)⟩)
    | _ => exact gen _ rfl p
  | str i =>
    cases dy with
    | str j =>
      rw [rb_str hx, rb_str hy]
      dsimp only [addD] at p
      by_cases hz : szOk (i.length + j.length) = true
      · rw [if_pos hz] at p
        exact .inr (.inr (.inl ⟨i, j, rfl, rfl, szOk_le hz, ok_post w p (.str _)⟩))
      · rw [if_neg hz] at p; exact p.elim
    | _ => exact gen _ rfl p
  | tup xs =>
    cases dy with
    | tup ys =>
      dsimp only [addD] at p
      by_cases hz : szOk (xs.length + ys.length) = true
      · rw [if_pos hz] at p
        obtain ⟨a, vs, rfl, ha, ra⟩ := rb_tup hx
        obtain ⟨b, us, rfl, hb, rb⟩ := rb_tup hy
        have ka : SqT K H a vs := Same.sqT w.sub ha
        have kb : SqT K H b us := Same.sqT w.sub hb
        refine .inr (.inr (.inr (.inl ⟨a, b, vs, us, rfl, rfl, ka, kb, by rw [ra.length, rb.length]; exact szOk_le hz, fun e => ?_, fun _ e => ?_, fun _ _ => ?_⟩)))
        · subst e
          cases ra
          exact ok_post w p (.tup hb rb)
        · subst e
          cases rb
          rw [List.append_nil] at p
          exact ok_post w p (.tup ha ra)
        · exact new_tup w p (ra.append rb)
      · rw [if_neg hz] at p; exact p.elim
    | _ => exact gen _ rfl p
  | _ => exact gen _ rfl p
theorem snd_cat : SndR2F K mg (rAddAll K) catD := by
  intro W σ H S μ A x y dx dy Q w hx hy p
  unfold catD at p
  cases ex : asL A dx with
  | none => rw [ex] at p; exact p.elim
  | some xs =>
    cases ey : asL A dy with
    | none => rw [ex, ey] at p; exact p.elim
    | some ys =>
      rw [ex, ey] at p
      dsimp only at p
      by_cases hz : szOk (xs.length + ys.length) = true
      · rw [if_pos hz] at p
        exact .inr (.inr (.inr (.inr (cat_of w hx hy ex ey hz fun vs r => new_own w p r))))
      · rw [if_neg hz] at p; exact p.elim

/-! ### ints -/
theorem snd_rI {C : Int → Int → Prop} {g : Int → Int → Int} {k : Int → Int → Bool} (hC : ∀ i j, k i j = true → C i j) {h : D → D → M D} (hh : ∀ i j A, h (.int i) (.int j) A = if k i j = true then .ok (.int (g i j)) A else .un)
    (hn : ∀ x y A, (∀ i j, x = .int i → y = .int j → False) → h x y A = .un) : SndR2 K mg (rI C fun i j => .int (g i j)) h := by
  intro W σ H S μ A x y dx dy Q w hx hy p
  have none : (∀ i j, dx = .int i → dy = .int j → False) → rI C (fun i j => .int (g i j)) x y H Q := fun z => by
    rw [hn dx dy A z] at p
    exact p.elim
  cases dx with
  | int i =>
    cases dy with
    | int j =>
      rw [hh] at p
      by_cases hk : k i j = true
      · rw [if_pos hk] at p
        rw [rb_int hx, rb_int hy]
        exact ⟨i, j, rfl, rfl, hC i j hk, ok_post w p (.int _)⟩
      · rw [if_neg hk] at p; exact p.elim
    | _ => exact none fun _ _ _ z => nomatch z
  | _ => exact none fun _ _ z _ => nomatch z
abbrev rSubX : R2 := fun x y H Q => rI0 (fun i j => .int (i - j)) x y H Q ∨ (∃ i k, x = .bl i ∧ y = .bl k ∧ Q (.int (b2i i - b2i k)) H)
theorem op_subB {X : Cx} : OpR X (binaryOp .Sub) (fun x y H Q => ∃ i k, x = .bl i ∧ y = .bl k ∧ Q (.int (b2i i - b2i k)) H) := by
  intro pins s σ H x y v u Q I rx ry h
  obtain ⟨i, k, rfl, rfl, q⟩ := h
  cases rx
  cases ry
  exact sub_bool ⟨.int (b2i i - b2i k), H, I.tok _, ⟨_, rfl⟩, q⟩
theorem op_subX {X : Cx} : OpR X (binaryOp .Sub) rSubX := op_sub.or op_subB
theorem snd_sub : SndR2 K mg rSubX subD := by
  intro W σ H S μ A x y dx dy Q w hx hy p
  cases dx with
  | int i =>
    cases dy with
    | int j => rw [rb_int hx, rb_int hy]; exact .inl ⟨i, j, rfl, rfl, ok_post w p (.int _)⟩
    | _ => exact p.elim
  | bl i =>
    cases dy with
    | bl j => rw [rb_bl hx, rb_bl hy]; exact .inr ⟨i, j, rfl, rfl, ok_post w p (.int _)⟩
    | _ => exact p.elim
  | _ => exact p.elim
theorem snd_mul : SndR2 K mg (rI CMulW fun i j => .int (i * j)) mulD := snd_rI (k := mulOk) (fun i j h => @of_decide_eq_true _ (Classical.propDecidable _) h) (fun _ _ _ => rfl) (fun x y A h => by
  unfold mulD
  split
  · exact (h _ _ rfl rfl).elim
  · rfl)
theorem snd_fdiv : SndR2 K mg (rI CDivW fun i j => .int (i / j)) fdivD := snd_rI (k := fun _ j => divOk j) (fun i j h => @of_decide_eq_true _ (Classical.propDecidable _) h) (fun _ _ _ => rfl) (fun x y A h => by
  unfold fdivD
  split
  · exact (h _ _ rfl rfl).elim
  · rfl)
theorem snd_mod : SndR2 K mg (rI (fun _ j => 0 < j) fun i j => .int (i % j)) modD := snd_rI (k := fun _ j => decide (0 < j)) (fun i j h => of_decide_eq_true h) (fun _ _ _ => rfl) (fun x y A h => by
  unfold modD
  split
  · exact (h _ _ rfl rfl).elim
  · rfl)
theorem snd_pow : SndR2 K mg (rI CPow fun i j => .int (i ^ j.toNat)) powD := snd_rI (k := fun i j => decide (0 ≤ j ∧ j ≤ 1000000 ∧ i.natAbs < 2 ^ 64)) (fun i j h => of_decide_eq_true h) (fun _ _ _ => rfl) (fun x y A h => by
  unfold powD
  split
  · exact (h _ _ rfl rfl).elim
  · rfl)
theorem snd_neg : SndU K mg (rU fun i => .int (-i)) negD := by
  intro W σ H S μ A x dx Q w hx p
  cases dx with
  | int i => rw [rb_int hx]; exact ⟨i, rfl, ok_post w p (.int _)⟩
  | _ => exact p.elim

/-! ### comparisons -/
def rIS (p : Int → Int → Bool) (q : Str → Str → Bool) : R2 := fun x y H Q => rI0 (fun i j => .bl (p i j)) x y H Q ∨ (∃ i j, x = .str i ∧ y = .str j ∧ Q (.bl (q i j)) H)
theorem snd_IS {p : Int → Int → Bool} {q : Str → Str → Bool} {h : D → D → M D} (h1 : ∀ i j A, h (.int i) (.int j) A = .ok (.bl (p i j)) A) (h2 : ∀ i j A, h (.str i) (.str j) A = .ok (.bl (q i j)) A)
    (hn : ∀ x y A, (∀ i j, x = .int i → y = .int j → False) → (∀ i j, x = .str i → y = .str j → False) → h x y A = .un) : SndR2 K mg (rIS p q) h := by
  intro W σ H S μ A x y dx dy Q w hx hy pp
  have none : (∀ i j, dx = .int i → dy = .int j → False) → (∀ i j, dx = .str i → dy = .str j → False) → rIS p q x y H Q := fun z z2 => by
    rw [hn dx dy A z z2] at pp
    exact pp.elim
  cases dx with
  | int i =>
    cases dy with
    | int j =>
      rw [h1] at pp
      rw [rb_int hx, rb_int hy]
      exact .inl ⟨i, j, rfl, rfl, ok_post w pp (.bl _)⟩
    | _ => exact none (fun _ _ _ z => nomatch z) (fun _ _ z _ => nomatch z)
  | str i =>
    cases dy with
    | str j =>
      rw [h2] at pp
      rw [rb_str hx, rb_str hy]
      exact .inr ⟨i, j, rfl, rfl, ok_post w pp (.bl _)⟩
    | _ => exact none (fun _ _ z _ => nomatch z) (fun _ _ _ z => nomatch z)
  | _ => exact none (fun _ _ z _ => nomatch z) (fun _ _ z _ => nomatch z)
theorem op_ltIS {X : Cx} : OpR X (compareOp .Lt) (rIS (fun i j => decide (i < j)) fun i j => decide (i.cps.toList < j.cps.toList)) := op_lt.or op_lt_str
theorem op_leIS {X : Cx} : OpR X (compareOp .LtE) (rIS (fun i j => decide (i ≤ j)) fun i j => !decide (j.cps.toList < i.cps.toList)) := op_le.or op_le_str
theorem op_gtIS {X : Cx} : OpR X (compareOp .Gt) (rIS (fun i j => decide (j < i)) fun i j => decide (j.cps.toList < i.cps.toList)) := op_gt.or op_gt_str
theorem op_geIS {X : Cx} : OpR X (compareOp .GtE) (rIS (fun i j => decide (j ≤ i)) fun i j => !decide (i.cps.toList < j.cps.toList)) := op_ge.or op_ge_str
theorem snd_lt : SndR2 K mg (rIS (fun i j => decide (i < j)) fun i j => decide (i.cps.toList < j.cps.toList)) ltD := snd_IS (fun _ _ _ => rfl) (fun _ _ _ => rfl) (fun x y A h h' => by
  unfold ltD
  split
  · exact (h _ _ rfl rfl).elim
  · exact (h' _ _ rfl rfl).elim
  · rfl)
theorem snd_le : SndR2 K mg (rIS (fun i j => decide (i ≤ j)) fun i j => !decide (j.cps.toList < i.cps.toList)) leD := snd_IS (fun _ _ _ => rfl) (fun _ _ _ => rfl) (fun x y A h h' => by
  unfold leD
  split
  · exact (h _ _ rfl rfl).elim
  · exact (h' _ _ rfl rfl).elim
  · rfl)
theorem snd_gt : SndR2 K mg (rIS (fun i j => decide (j < i)) fun i j => decide (j.cps.toList < i.cps.toList)) gtD := snd_IS (fun _ _ _ => rfl) (fun _ _ _ => rfl) (fun x y A h h' => by
  unfold gtD
  split
  · exact (h _ _ rfl rfl).elim
  · exact (h' _ _ rfl rfl).elim
  · rfl)
theorem snd_ge : SndR2 K mg (rIS (fun i j => decide (j ≤ i)) fun i j => !decide (i.cps.toList < j.cps.toList)) geD := snd_IS (fun _ _ _ => rfl) (fun _ _ _ => rfl) (fun x y A h h' => by
  unfold geD
  split
  · exact (h _ _ rfl rfl).elim
  · exact (h' _ _ rfl rfl).elim
  · rfl)
theorem rb_isN {v : V} {d : D} (h : RB K H S μ v d) : decide (v = .non) = isNonD d := by
  cases h with
  | rp h => cases h <;> simp [isNonD]
  | ow _ _ _ => simp [isNonD]
  | od _ _ _ => simp [isNonD]
theorem snd_isN : SndR2 K mg (fun x y H Q => y = .non ∧ Q (.bl (decide (x = .non))) H) isN := by
  intro W σ H S μ A x y dx dy Q w hx hy p
  cases dy with
  | non =>
    refine ⟨rb_non hy, ?_⟩
    rw [rb_isN hx]
    exact ok_post w p (.bl _)
  | _ => unfold isN at p; exact p.elim
theorem snd_notN : SndR2 K mg (fun x y H Q => y = .non ∧ Q (.bl (!decide (x = .non))) H) notN := by
  intro W σ H S μ A x y dx dy Q w hx hy p
  cases dy with
  | non =>
    refine ⟨rb_non hy, ?_⟩
    rw [rb_isN hx]
    exact ok_post w p (.bl _)
  | _ => unfold notN at p; exact p.elim

/-! ### ==, != -/
/-- == of flat things, one not in the rules: by a list of one -/
def rEqAll (K : PySem.W.Frag) : R2 := rEqD K
theorem flat_shp {d : D} (h : flatD d = true) (hs : ∀ x, d = .str x → (x.cps.all (· < 0x110000)) = true) : shp d = true := by
  cases d with
  | str x =>
    have := hs x rfl
    simp only [shp, D.plain, D.py, SeqAt.shaped, PyData.canLay0, PyData.strOk, PyData.depth, this, Bool.true_and]
    decide
  | non => rfl
  | bl b => rfl
  | int i => rfl
  | _ => cases h
def rEqX (K : PySem.W.Frag) : R2 := fun x y H Q => rEq x y H Q ∨ rEqD K x y H Q
def rNeX (K : PySem.W.Frag) : R2 := fun x y H Q => rNe x y H Q ∨ rNeD K x y H Q
theorem op_eqX {X : Cx} (hu : X.A.units + 64 < cLine) : OpR X (compareOp .Eq) (rEqX X.K) := op_eq.or (op_eqD hu)
theorem op_neX {X : Cx} (hu : X.A.units + 64 < cLine) : OpR X (compareOp .NotEq) (rNeX X.K) := op_ne.or (op_neD hu)
theorem scal_eqv {x y : D} {v u : V} (hx : RB K H S μ v x) (hy : RB K H S μ u y) (fx : flatD x = true) (fy : flatD y = true) : (scal v u = true ∧ decide (v = u) = PyData.eqv x.py y.py) ∨ (shp x = true ∧ shp y = true) := by
  obtain ⟨_, ⟨rfl, rfl⟩ | ⟨a, rfl, rfl⟩ | ⟨a, rfl, rfl⟩ | ⟨a, rfl, rfl⟩⟩ := flat_v hx fx <;> obtain ⟨_, ⟨rfl, rfl⟩ | ⟨b, rfl, rfl⟩ | ⟨b, rfl, rfl⟩ | ⟨b, rfl, rfl⟩⟩ := flat_v hy fy <;>
    first
      | exact .inr ⟨rfl, rfl⟩
      | exact .inl ⟨rfl, by simp only [D.py, PyData.eqv]; first | exact dec_bl | exact dec_int | exact dec_str | simp⟩
theorem snd_eq : SndR2 K mg (rEqX K) eqD := by
  intro W σ H S μ A x y dx dy Q w hx hy p
  unfold eqD at p
  have deep : shp dx = true → shp dy = true → EPost K mg H S μ W σ (rE K) Q (.ok (.bl (PyData.eqv dx.py dy.py)) A) → rEqX K x y H Q := fun h1 h2 p => by
    unfold shp at h1 h2
    rw [Bool.and_eq_true] at h1 h2
    exact .inr ⟨dx.py, dy.py, dp_rb w hx h1.1, dp_rb w hy h2.1, h1.2, h2.2, ok_post w p (.bl _)⟩
  by_cases hf : (flatD dx && flatD dy) = true
  · rw [if_pos hf] at p
    rw [Bool.and_eq_true] at hf
    rcases scal_eqv hx hy hf.1 hf.2 with ⟨h1, h2⟩ | ⟨h1, h2⟩
    · exact .inl ⟨h1, by rw [h2]; exact ok_post w p (.bl _)⟩
    · exact deep h1 h2 p
  · rw [if_neg hf] at p
    by_cases hs : (shp dx && shp dy) = true
    · rw [if_pos hs] at p
      rw [Bool.and_eq_true] at hs
      exact deep hs.1 hs.2 p
    · rw [if_neg hs] at p; exact p.elim
theorem snd_ne : SndR2 K mg (rNeX K) neD := by
  intro W σ H S μ A x y dx dy Q w hx hy p
  unfold neD at p
  have deep : shp dx = true → shp dy = true → EPost K mg H S μ W σ (rE K) Q (.ok (.bl (!PyData.eqv dx.py dy.py)) A) → rNeX K x y H Q := fun h1 h2 p => by
    unfold shp at h1 h2
    rw [Bool.and_eq_true] at h1 h2
    exact .inr ⟨dx.py, dy.py, dp_rb w hx h1.1, dp_rb w hy h2.1, h1.2, h2.2, ok_post w p (.bl _)⟩
  by_cases hf : (flatD dx && flatD dy) = true
  · rw [if_pos hf] at p
    rw [Bool.and_eq_true] at hf
    rcases scal_eqv hx hy hf.1 hf.2 with ⟨h1, h2⟩ | ⟨h1, h2⟩
    · exact .inl ⟨h1, by rw [h2]; exact ok_post w p (.bl _)⟩
    · exact deep h1 h2 p
  · rw [if_neg hf] at p
    by_cases hs : (shp dx && shp dy) = true
    · rw [if_pos hs] at p
      rw [Bool.and_eq_true] at hs
      exact deep hs.1 hs.2 p
    · rw [if_neg hs] at p; exact p.elim

/-! ### in, not in -/
def inStr (x y : Str) : Bool := !(Builtin.Str.occurrences y x 0 y.length 1).isEmpty
def inD (neg : Bool) (x y : D) : M D := fun A => match x, y with
  | .str a, .str b => .ok (.bl (if neg then !inStr a b else inStr a b)) A
  | x, .tup ys => if (flatD x && ys.all flatD) = true then .ok (.bl (if neg then !(ys.any fun z => PyData.eqv z.py x.py) else ys.any fun z => PyData.eqv z.py x.py)) A else .un
  | x, y => match asR A y with
    | some ys => if (flatD x && ys.all flatD) = true then .ok (.bl (if neg then !(ys.any fun z => PyData.eqv z.py x.py) else ys.any fun z => PyData.eqv z.py x.py)) A
      else if (shp x && shp (.lst ys)) = true then .ok (.bl (if neg then !(ys.any fun z => PyData.eqv z.py x.py) else ys.any fun z => PyData.eqv z.py x.py)) A else .un
    | none => .un
def rInAll (K : PySem.W.Frag) (neg : Bool) : R2 := fun x y H Q => (∃ i j, x = .str i ∧ y = .str j ∧ Q (.bl (if neg then !inStr i j else inStr i j)) H) ∨ rIn K neg x y H Q ∨ (if neg then rNotInD K x y H Q else rInD K x y H Q)
theorem op_inAll {X : Cx} (hu : X.A.units + 65 < cLine) : OpR X (compareOp .In) (rInAll X.K false) := op_in_str.or (op_in_seq.or (op_inD hu))
theorem op_ninAll {X : Cx} (hu : X.A.units + 65 < cLine) : OpR X (compareOp .NotIn) (rInAll X.K true) := op_notin_str.or (op_notIn_seq.or (op_notInD hu))
theorem inV_eq {x : V} {d : D} (hx : RB K H S μ x d) (fx : flatD d = true) : ∀ {vs : List V} {ds : List D}, RpA K S μ vs ds → ds.all flatD = true → vs.all flatV = true ∧ inV x vs = ds.any fun z => PyData.eqv z.py d.py
  | _, _, .nil, _ => ⟨rfl, rfl⟩
  | _, _, .cons a b, h => by
    rw [List.all_cons, Bool.and_eq_true] at h
    obtain ⟨h1, h2⟩ := inV_eq hx fx b h.2
    refine ⟨?_, ?_⟩
    · rw [List.all_cons, h1, (flat_v (H := H) (.rp a) h.1).1]; rfl
    · unfold inV at h2 ⊢
      rw [List.any_cons, List.any_cons, h2, eqv_flat (H := H) (.rp a) hx h.1 fx]
theorem pys_any {d : D} : ∀ (ds : List D), ((D.pys ds).any fun z => PyData.eqv z d.py) = ds.any fun z => PyData.eqv z.py d.py
  | [] => by unfold D.pys; rfl
  | x :: r => by unfold D.pys; rw [List.any_cons, List.any_cons, pys_any r]
theorem snd_in {neg : Bool} : SndR2 K mg (rInAll K neg) (inD neg) := by
  intro W σ H S μ A x y dx dy Q w hx hy p
  have flat : ∀ {a : Addr} {vs : List V} {ds : List D}, y = .ref a → (SqL K H a vs ∨ SqT K H a vs) → RpA K S μ vs ds → (flatD dx && ds.all flatD) = true →
      EPost K mg H S μ W σ (rE K) Q (.ok (.bl (if neg then !(ds.any fun z => PyData.eqv z.py dx.py) else ds.any fun z => PyData.eqv z.py dx.py)) A) → rInAll K neg x y H Q := fun {a vs ds} ey hq ra hf p => by
    rw [Bool.and_eq_true] at hf
    obtain ⟨h1, h2⟩ := inV_eq hx hf.1 ra hf.2
    refine .inr (.inl ⟨a, vs, ey, hq, (flat_v hx hf.1).1, h1, ?_⟩)
    rw [h2]
    exact ok_post w p (.bl _)
  have gen : ∀ (r : R D), r = (match asR A dy with
    | some ys => if (flatD dx && ys.all flatD) = true then .ok (.bl (if neg then !(ys.any fun z => PyData.eqv z.py dx.py) else ys.any fun z => PyData.eqv z.py dx.py)) A
      else if (shp dx && shp (.lst ys)) = true then .ok (.bl (if neg then !(ys.any fun z => PyData.eqv z.py dx.py) else ys.any fun z => PyData.eqv z.py dx.py)) A else .un
    | none => .un) → EPost K mg H S μ W σ (rE K) Q r → rInAll K neg x y H Q := by
    intro r e p
    cases ey : asR A dy with
    | none => rw [ey] at e; subst e; exact p.elim
    | some ys =>
      rw [ey] at e
      dsimp only at e
      obtain ⟨a, vs, rfl, ha, ra⟩ := as_rd w hy ey
      by_cases hf : (flatD dx && ys.all flatD) = true
      · rw [if_pos hf] at e
        subst e
        exact flat rfl (.inl ha) ra hf p
      · rw [if_neg hf] at e
        by_cases hs : (shp dx && shp (.lst ys)) = true
        · rw [if_pos hs] at e
          subst e
          rw [Bool.and_eq_true] at hs
          have h1 := hs.1
          have h2 := hs.2
          unfold shp at h1 h2
          rw [Bool.and_eq_true] at h1 h2
          have hp : D.plains ys = true := by
            have z := h2.1
            unfold D.plain at z
            exact z
          have hl : Dp K H (.ref a) (.list (D.pys ys)) := .lst ha (dpA_of w.sub ra hp)
          have sh : SeqAt.shaped (.list (D.pys ys)) = true := by
            have z := h2.2
            unfold D.py at z
            exact z
          refine .inr (.inr ?_)
          cases neg with
          | true =>
            rw [if_pos rfl]
            refine ⟨dx.py, D.pys ys, dp_rb w hx h1.1, hl, h1.2, sh, ?_⟩
            rw [pys_any]
            exact ok_post w p (.bl _)
          | false =>
            rw [if_neg Bool.false_ne_true]
            refine ⟨dx.py, D.pys ys, dp_rb w hx h1.1, hl, h1.2, sh, ?_⟩
            rw [pys_any]
            exact ok_post w p (.bl _)
        · rw [if_neg hs] at e; subst e; exact p.elim
  have tupc : ∀ {ys : List D}, dy = .tup ys → EPost K mg H S μ W σ (rE K) Q (if (flatD dx && ys.all flatD) = true then .ok (.bl (if neg then !(ys.any fun z => PyData.eqv z.py dx.py) else ys.any fun z => PyData.eqv z.py dx.py)) A else .un) → rInAll K neg x y H Q := fun {ys} e p => by
    clear gen
    rename_i p0
    clear p0
    subst e
    obtain ⟨a, vs, e1, ha, ra⟩ := rb_tup hy
    by_cases hf : (flatD dx && ys.all flatD) = true
    · rw [if_pos hf] at p
      exact flat e1 (.inr (Same.sqT w.sub ha)) ra hf p
    · rw [if_neg hf] at p; exact p.elim
  cases dy with
  | tup ys => cases dx <;> exact tupc rfl p
  | str b =>
    cases dx with
    | str a => rw [rb_str hx, rb_str hy]; exact .inl ⟨a, b, rfl, rfl, ok_post w p (.bl _)⟩
    | _ => exact gen _ rfl p
  | _ => cases dx <;> exact gen _ rfl p
end
end Pv

noncomputable section
namespace Pv
open PySem PySem.Spec L2
open PyProof.Rows hiding St

/-! ### subscripts -/
def ixD (d i : D) : M D := fun A => match i with
  | .int k => match d with
    | .tup xs => match atI xs k with
      | some v => .ok v A
      | none => .un
    | .str z => if szOk z.length = true then (match atI z.cps.toList k with
      | some c => .ok (.str ⟨#[c]⟩) A
      | none => .un) else .un
    | d => match asR A d with
      | some xs => match atI xs k with
        | some v => .ok v A
        | none => .un
      | none => .un
  | _ => .un
section
variable {K : PySem.W.Frag} {mg : Str → Option Value} {S H : Hp} {μ : List Addr} {A : AS}
theorem RpA.atI {vs : List V} {ds : List D} {i : Int} {d : D} (r : RpA K S μ vs ds) (h : L2.atI ds i = some d) : ∃ v, L2.atI vs i = some v ∧ Rp K S μ v d := by
  unfold L2.atI at h ⊢
  rw [r.length]
  cases e : ixN ds.length i with
  | none => rw [e] at h; cases h
  | some j =>
    rw [e] at h
    obtain ⟨v, h1, h2⟩ := r.get (show ds[j]? = some d from h)
    exact ⟨v, h1, h2⟩
theorem snd_ix : SndR2 K mg (rIx K) ixD := by
  intro W σ H S μ A x y dx dy Q w hx hy p
  have gen : ∀ (r : R D), ∀ k, dy = .int k → r = (match asR A dx with
      | some xs => match atI xs k with
        | some v => .ok v A
        | none => .un
      | none => .un) → EPost K mg H S μ W σ (rE K) Q r → rIx K x y H Q := by
    intro r k e0 e p
    subst e0
    cases ex : asR A dx with
    | none => rw [ex] at e; subst e; exact p.elim
    | some xs =>
      rw [ex] at e
      dsimp only at e
      cases ea : atI xs k with
      | none => rw [ea] at e; subst e; exact p.elim
      | some v =>
        rw [ea] at e
        subst e
        obtain ⟨a, vs, rfl, ha, ra⟩ := as_rd w hx ex
        obtain ⟨u, hu, ru⟩ := ra.atI ea
        exact .inl ⟨a, vs, k, u, rfl, rb_int hy, ha, hu, ok_post w p ru⟩
  cases dy with
  | int k =>
    cases dx with
    | tup xs =>
      dsimp only [ixD] at p
      cases ea : atI xs k with
      | none => rw [ea] at p; exact p.elim
      | some v =>
        rw [ea] at p
        obtain ⟨a, vs, rfl, ha, ra⟩ := rb_tup hx
        obtain ⟨u, hu, ru⟩ := ra.atI ea
        exact .inr (.inl ⟨a, vs, k, u, rfl, rb_int hy, Same.sqT w.sub ha, hu, ok_post w p ru⟩)
    | str z =>
      dsimp only [ixD] at p
      by_cases hz : szOk z.length = true
      · rw [if_pos hz] at p
        cases ea : atI z.cps.toList k with
        | none => rw [ea] at p; exact p.elim
        | some c =>
          rw [ea] at p
          exact .inr (.inr ⟨z, k, c, rb_str hx, rb_int hy, szOk_le hz, ea, ok_post w p (.str _)⟩)
      · rw [if_neg hz] at p; exact p.elim
    | _ => exact gen _ k rfl rfl p
  | _ => exact p.elim

/-! ### slices -/
def cutL {α : Type} (xs : List α) (lo hi : Option Int) : List α := (xs.drop (HT.sIx xs.length 0 lo)).take (HT.sIx xs.length xs.length hi - HT.sIx xs.length 0 lo)
theorem RpA.cut {vs : List V} {ds : List D} (r : RpA K S μ vs ds) (lo hi : Option Int) : RpA K S μ (cutV vs lo hi) (cutL ds lo hi) := by
  unfold cutV cutL
  rw [r.length]
  exact (r.drop _).take _
theorem cutL_full {α : Type} (xs : List α) (lo hi : Option Int) (h : HT.sIx xs.length 0 lo = 0 ∧ HT.sIx xs.length xs.length hi = xs.length) : cutL xs lo hi = xs := by
  unfold cutL
  rw [h.1, h.2]
  simp
structure PuO (X : Cx) (W : WW) (e : Option Expr) (t : TO) (f : Env → M (Option Int)) : Prop where
  der : PO X e t
  snd : Snd X.K X.mg W rO t f
def oNo : Env → M (Option Int) := fun _ A => .ok none A
def oSome (f : Env → M D) : Env → M (Option Int) := fun δ A => (f δ A).bind fun x A1 => match x with
  | .int i => .ok (some i) A1
  | _ => .un
def slD (d : D) (lo hi : Option Int) : M D := fun A => match d with
  | .tup xs => .ok (.tup (cutL xs lo hi)) A
  | .str z => if szOk z.length = true then .ok (.str (cutS z lo hi)) A else .un
  | d => match asR A d with
    | some xs => .ok (.lst (cutL xs lo hi)) A
    | none => .un
def slF (d : D) (lo hi : Option Int) : M (List D) := fun A => match asR A d with
  | some xs => .ok (cutL xs lo hi) A
  | none => .un
def eSl (f : Env → M D) (lo hi : Env → M (Option Int)) : Env → M D := fun δ A => (f δ A).bind fun x A1 => (lo δ A1).bind fun l A2 => (hi δ A2).bind fun u A3 => slD x l u A3
def eSlF (f : Env → M D) (lo hi : Env → M (Option Int)) : Env → M (List D) := fun δ A => (f δ A).bind fun x A1 => (lo δ A1).bind fun l A2 => (hi δ A2).bind fun u A3 => slF x l u A3
def rSlAll (K : PySem.W.Frag) : V → Option Int → Option Int → Hp → VK → Prop := fun x lo hi H Q => rSlL K x lo hi H Q ∨ rSlA K x lo hi H Q ∨ rSlS x lo hi H Q
theorem sl_all {X : Cx} : SlR X (rSlAll X.K) := sl_list.or (sl_tupA.or sl_str)
variable {X : Cx} {W : WW} {e a b c : Expr} {ta tb te tc : TE} {t u : TT} {f g : Env → M D}
theorem po_no : PuO X W none tNoPart oNo := ⟨po_none, fun B σ δ H S μ A Q s p => p none H S μ (Nxt.refl s.wd) rfl⟩
theorem po_so (h : PuE X W e te f) : PuO X W (some e) (tPart te) (oSome f) := ⟨po_some h.der, fun B σ δ H S μ A Q s p =>
  h.snd B σ δ H S μ A _ s (EPost.bind up_O s.h0 p fun x A1 v H1 S1 μ1 n1 r1 p1 => by
    cases x with
    | int i => exact ⟨i, rp_int r1, p1 (some i) H1 S1 μ1 (Nxt.refl n1.wd) rfl⟩
    | _ => exact p1.elim)⟩
theorem sl_snd {W : WW} {σ : L2.St} {x : V} {d : D} {lo hi : Option Int} {Q : VK} (w : Wd K mg S μ A H) (hx : RB K H S μ x d) (p : EPost K mg H S μ W σ (rE K) Q (slD d lo hi A)) : rSlAll K x lo hi H Q := by
  have gen : ∀ (r : R D), r = (match asR A d with
      | some xs => .ok (.lst (cutL xs lo hi)) A
      | none => .un) → EPost K mg H S μ W σ (rE K) Q r → rSlAll K x lo hi H Q := by
    intro r e p
    cases ex : asR A d with
    | none => rw [ex] at e; subst e; exact p.elim
    | some xs =>
      rw [ex] at e
      subst e
      obtain ⟨a, vs, rfl, ha, ra⟩ := as_rd w hx ex
      exact .inl ⟨a, vs, rfl, ha, new_lst w p (ra.cut lo hi)⟩
  cases d with
  | tup xs =>
    obtain ⟨a, vs, rfl, ha, ra⟩ := rb_tup hx
    refine .inr (.inl ⟨a, vs, rfl, Same.sqT w.sub ha, fun hw => ?_, fun _ => new_tup w p (ra.cut lo hi)⟩)
    rw [ra.length] at hw
    dsimp only [slD] at p
    rw [cutL_full xs lo hi hw] at p
    exact ok_post w p (.tup ha ra)
  | str z =>
    dsimp only [slD] at p
    by_cases hz : szOk z.length = true
    · rw [if_pos hz] at p
      exact .inr (.inr ⟨z, rb_str hx, szOk_le hz, ok_post w p (.str _)⟩)
    · rw [if_neg hz] at p; exact p.elim
  | _ => exact gen _ rfl p
theorem sl_sndF {W : WW} {σ : L2.St} {x : V} {d : D} {lo hi : Option Int} {Q : VK} (w : Wd K mg S μ A H) (hx : RB K H S μ x d) (p : EPost K mg H S μ W σ (rF K) Q (slF d lo hi A)) : rSlAll K x lo hi H Q := by
  unfold slF at p
  cases ex : asR A d with
  | none => rw [ex] at p; exact p.elim
  | some xs =>
    rw [ex] at p
    obtain ⟨a, vs, rfl, ha, ra⟩ := as_rd w hx ex
    exact .inl ⟨a, vs, rfl, ha, new_own w p (ra.cut lo hi)⟩
variable {lo hi : Option Expr} {tl th : TO} {fl fh : Env → M (Option Int)}
theorem pu_slice {p2 pos} (ha : PuB X W a ta f) (hl : PuO X W lo tl fl) (hh : PuO X W hi th fh) : PuE X W (.Subscript a (.Slice lo hi none p2) pos) (tSl (rSlAll X.K) ta tl th) (eSl f fl fh) := ⟨pe_slice sl_all ha.der hl.der hh.der, fun B σ δ H S μ A Q s p =>
  ha.snd B σ δ H S μ A _ s (EPost.bind up_E s.h0 p fun x A1 v H1 S1 μ1 n1 r1 p1 =>
    hl.snd B σ δ H1 S1 μ1 A1 _ (s.step n1) (EPost.bind up_E (s.step n1).h0 p1 fun y A2 l H2 S2 μ2 n2 r2 p2 =>
      hh.snd B σ δ H2 S2 μ2 A2 _ (s.step n1 |>.step n2) (EPost.bind up_E (s.step n1 |>.step n2).h0 p2 fun z A3 u H3 S3 μ3 n3 r3 p3 => by
        cases r2
        cases r3
        exact sl_snd n3.wd ((r1.nxt n2).nxt n3) p3)))⟩
theorem pu_sliceF {p2 pos} (ha : PuB X W a ta f) (hl : PuO X W lo tl fl) (hh : PuO X W hi th fh) : PuF X W (.Subscript a (.Slice lo hi none p2) pos) (tSl (rSlAll X.K) ta tl th) (eSlF f fl fh) := ⟨pe_slice sl_all ha.der hl.der hh.der, fun B σ δ H S μ A Q s p =>
  ha.snd B σ δ H S μ A _ s (EPost.bind up_F s.h0 p fun x A1 v H1 S1 μ1 n1 r1 p1 =>
    hl.snd B σ δ H1 S1 μ1 A1 _ (s.step n1) (EPost.bind up_F (s.step n1).h0 p1 fun y A2 l H2 S2 μ2 n2 r2 p2 =>
      hh.snd B σ δ H2 S2 μ2 A2 _ (s.step n1 |>.step n2) (EPost.bind up_F (s.step n1 |>.step n2).h0 p2 fun z A3 u H3 S3 μ3 n3 r3 p3 => by
        cases r2
        cases r3
        exact sl_sndF n3.wd ((r1.nxt n2).nxt n3) p3)))⟩
theorem pu_ix {pos} (ha : PuB X W a ta f) (hb : PuB X W b tb g) (hs : PlainIx b) : PuE X W (.Subscript a b pos) (tOp (rIx X.K) ta tb) (eBin ixD f g) := ⟨pe_ix ix_seq ha.der hb.der hs, snd_bin ha.snd hb.snd snd_ix⟩

/-! ### calls of built-ins -/
def rListS2 (K : PySem.W.Frag) : List V → Hp → VK → Prop := fun xs H Q => ∃ p ys, xs = [.ref p] ∧ (SqL K H p ys ∨ SqT K H p ys) ∧ ∀ l, H l = none → Q (.ref l) (upd H l (.lst ys))
def SndC (K : PySem.W.Frag) (mg : Str → Option Value) (r : List V → Hp → VK → Prop) (h : List D → M D) : Prop :=
  ∀ W σ H S μ A vs ds Q, Wd K mg S μ A H → RBs K H S μ vs ds → EPost K mg H S μ W σ (rE K) Q (h ds A) → r vs H Q
def SndCF (K : PySem.W.Frag) (mg : Str → Option Value) (r : List V → Hp → VK → Prop) (h : List D → M (List D)) : Prop :=
  ∀ W σ H S μ A vs ds Q, Wd K mg S μ A H → RBs K H S μ vs ds → EPost K mg H S μ W σ (rF K) Q (h ds A) → r vs H Q
def eB (h : List D → M D) (fa : Env → M (List D)) : Env → M D := fun δ A => (fa δ A).bind fun ds A1 => h ds A1
def eBF (h : List D → M (List D)) (fa : Env → M (List D)) : Env → M (List D) := fun δ A => (fa δ A).bind fun ds A1 => h ds A1
variable {es : List Expr} {tA : TA} {fa : Env → M (List D)} {x : Str} {p pos : Pos} {bid T : String} {r : List V → Hp → VK → Prop} {h : List D → M D} {hF : List D → M (List D)}
theorem snd_cb (ha : Snd K mg W (rBs K) tA fa) (hr : SndC K mg r h) : Snd K mg W (rE K) (tCB r tA) (eB h fa) := fun B σ δ H S μ A Q s p =>
  ha B σ δ H S μ A _ s (EPost.bind up_E s.h0 p fun x A1 v H1 S1 μ1 n1 r1 p1 => hr W σ H1 S1 μ1 A1 v x Q n1.wd r1 p1)
theorem snd_cbF (ha : Snd K mg W (rBs K) tA fa) (hr : SndCF K mg r hF) : Snd K mg W (rF K) (tCB r tA) (eBF hF fa) := fun B σ δ H S μ A Q s p =>
  ha B σ δ H S μ A _ s (EPost.bind up_F s.h0 p fun x A1 v H1 S1 μ1 n1 r1 p1 => hr W σ H1 S1 μ1 A1 v x Q n1.wd r1 p1)
theorem pu_callB (hc : CallR X (.builtin bid) r) (hr : SndC X.K X.mg r h) (hg : Gl X x) (hm : X.mg x = none) (hv : bootBuiltins x = some (.builtin bid)) (ha : PuC X W (e :: es) tA fa) (hn : x ≠ "__name__" := by decide) (hdb : (x == ("__debug__" : Str)) = false := by decide)
    (he : starEach (e :: es) X.env = (false, eval e X.env) :: starEach es X.env := by rfl) (hpl : (backTo pos (starEach es X.env)).any (·.1) = false := by rfl) : PuE X W (.Call (.Name x p) (e :: es) [] pos) (tCB r tA) (eB h fa) := ⟨pe_callB hc hg hm hv ha.der hn hdb he hpl, snd_cb ha.snd hr⟩
theorem pu_callBF (hc : CallR X (.builtin bid) r) (hr : SndCF X.K X.mg r hF) (hg : Gl X x) (hm : X.mg x = none) (hv : bootBuiltins x = some (.builtin bid)) (ha : PuC X W (e :: es) tA fa) (hn : x ≠ "__name__" := by decide) (hdb : (x == ("__debug__" : Str)) = false := by decide)
    (he : starEach (e :: es) X.env = (false, eval e X.env) :: starEach es X.env := by rfl) (hpl : (backTo pos (starEach es X.env)).any (·.1) = false := by rfl) : PuF X W (.Call (.Name x p) (e :: es) [] pos) (tCB r tA) (eBF hF fa) := ⟨pe_callB hc hg hm hv ha.der hn hdb he hpl, snd_cbF ha.snd hr⟩
theorem pu_callTy (hc : CallR X (.type T) r) (hr : SndC X.K X.mg r h) (hg : Gl X x) (hm : X.mg x = none) (hv : bootBuiltins x = some (.type T)) (ha : PuC X W (e :: es) tA fa) (hn : x ≠ "__name__" := by decide) (hdb : (x == ("__debug__" : Str)) = false := by decide)
    (he : starEach (e :: es) X.env = (false, eval e X.env) :: starEach es X.env := by rfl) (hpl : (backTo pos (starEach es X.env)).any (·.1) = false := by rfl) : PuE X W (.Call (.Name x p) (e :: es) [] pos) (tCB r tA) (eB h fa) := ⟨pe_callTy hc hg hm hv ha.der hn hdb he hpl, snd_cb ha.snd hr⟩
theorem pu_callTyF (hc : CallR X (.type T) r) (hr : SndCF X.K X.mg r hF) (hg : Gl X x) (hm : X.mg x = none) (hv : bootBuiltins x = some (.type T)) (ha : PuC X W (e :: es) tA fa) (hn : x ≠ "__name__" := by decide) (hdb : (x == ("__debug__" : Str)) = false := by decide)
    (he : starEach (e :: es) X.env = (false, eval e X.env) :: starEach es X.env := by rfl) (hpl : (backTo pos (starEach es X.env)).any (·.1) = false := by rfl) : PuF X W (.Call (.Name x p) (e :: es) [] pos) (tCB r tA) (eBF hF fa) := ⟨pe_callTy hc hg hm hv ha.der hn hdb he hpl, snd_cbF ha.snd hr⟩
theorem rbs1 {H S : Hp} {μ : List Addr} {vs : List V} {d : D} (h : RBs K H S μ vs [d]) : ∃ v, vs = [v] ∧ RB K H S μ v d := by
  cases h with
  | cons a b => cases b; exact ⟨_, rfl, a⟩
theorem rbs2 {H S : Hp} {μ : List Addr} {vs : List V} {d d' : D} (h : RBs K H S μ vs [d, d']) : ∃ v v', vs = [v, v'] ∧ RB K H S μ v d ∧ RB K H S μ v' d' := by
  cases h with
  | cons a b =>
    obtain ⟨v, rfl, h2⟩ := rbs1 b
    exact ⟨_, _, rfl, a, h2⟩
/-- len -/
def lenOne (d : D) : M D := fun A => match d with
  | .str z => if szOk z.length = true then .ok (.int z.length) A else .un
  | .tup xs => .ok (.int xs.length) A
  | d => match asR A d with
    | some xs => .ok (.int xs.length) A
    | none => .un
def one (h : D → M D) : List D → M D
  | [d] => h d
  | _ => fun _ => .un
def oneF (h : D → M (List D)) : List D → M (List D)
  | [d] => h d
  | _ => fun _ => .un
theorem snd_one {h : D → M D} (k : ∀ W σ H S μ A v d Q, Wd K mg S μ A H → RB K H S μ v d → EPost K mg H S μ W σ (rE K) Q (h d A) → r [v] H Q) : SndC K mg r (one h) := by
  intro W σ H S μ A vs ds Q w hs p
  match ds, hs, p with
  | [d], hs, p =>
    obtain ⟨v, rfl, hv⟩ := rbs1 hs
    exact k W σ H S μ A v d Q w hv p
  | [], hs, p => exact p.elim
  | _ :: _ :: _, hs, p => exact p.elim
theorem snd_oneF {h : D → M (List D)} (k : ∀ W σ H S μ A v d Q, Wd K mg S μ A H → RB K H S μ v d → EPost K mg H S μ W σ (rF K) Q (h d A) → r [v] H Q) : SndCF K mg r (oneF h) := by
  intro W σ H S μ A vs ds Q w hs p
  match ds, hs, p with
  | [d], hs, p =>
    obtain ⟨v, rfl, hv⟩ := rbs1 hs
    exact k W σ H S μ A v d Q w hv p
  | [], hs, p => exact p.elim
  | _ :: _ :: _, hs, p => exact p.elim
def rLenX (K : PySem.W.Frag) : List V → Hp → VK → Prop := fun xs H Q => ∃ x n, xs = [x] ∧ LenV K x H n ∧ Q (.int n) H
theorem snd_len : SndC K mg (rLenX K) (one lenOne) := snd_one fun W σ H S μ A v d Q w hd p => by
  have gen : ∀ (r : R D), r = (match asR A d with
      | some xs => .ok (.int xs.length) A
      | none => .un) → EPost K mg H S μ W σ (rE K) Q r → rLenX K [v] H Q := by
    intro r e p
    cases ex : asR A d with
    | none => rw [ex] at e; subst e; exact p.elim
    | some xs =>
      rw [ex] at e
      subst e
      obtain ⟨a, us, rfl, ha, ra⟩ := as_rd w hd ex
      exact ⟨_, xs.length, rfl, .inl ⟨us, ha, ra.length.symm⟩, ok_post w p (.int _)⟩
  cases d with
  | str z =>
    dsimp only [lenOne] at p
    by_cases hz : szOk z.length = true
    · rw [if_pos hz] at p
      exact ⟨v, z.length, rfl, by rw [rb_str hd]; exact ⟨szOk_le hz, rfl⟩, ok_post w p (.int _)⟩
    · rw [if_neg hz] at p; exact p.elim
  | tup xs =>
    obtain ⟨a, us, rfl, ha, ra⟩ := rb_tup hd
    exact ⟨_, xs.length, rfl, .inr ⟨us, Same.sqT w.sub ha, ra.length.symm⟩, ok_post w p (.int _)⟩
  | _ => exact gen _ rfl p
/-! lists of ints, of truths -/
def intsOf : List D → Option (List Int)
  | [] => some []
  | .int i :: r => (intsOf r).map (i :: ·)
  | _ :: _ => none
def blsOf : List D → Option (List Bool)
  | [] => some []
  | .bl i :: r => (blsOf r).map (i :: ·)
  | _ :: _ => none
theorem ints_rp : ∀ {ds : List D} {ns : List Int} {vs : List V}, intsOf ds = some ns → RpA K S μ vs ds → vs = ns.map V.int ∧ ds = ns.map D.int
  | [], ns, vs, h, r => by
    cases h
    cases r
    exact ⟨rfl, rfl⟩
  | .int i :: ds, ns, vs, h, r => by
    cases r with
    | cons a b =>
      cases e : intsOf ds with
      | none => unfold intsOf at h; rw [e] at h; cases h
      | some ms =>
        unfold intsOf at h
        rw [e] at h
        cases h
        obtain ⟨h1, h2⟩ := ints_rp e b
        rw [rp_int a, h1, h2]
        exact ⟨rfl, rfl⟩
  | .non :: _, _, _, h, _ => by cases h
  | .bl _ :: _, _, _, h, _ => by cases h
  | .str _ :: _, _, _, h, _ => by cases h
  | .tup _ :: _, _, _, h, _ => by cases h
  | .lst _ :: _, _, _, h, _ => by cases h
  | .scr _ :: _, _, _, h, _ => by cases h
  | .dic _ :: _, _, _, h, _ => by cases h
  | .ref _ :: _, _, _, h, _ => by cases h
theorem bls_rp : ∀ {ds : List D} {ns : List Bool} {vs : List V}, blsOf ds = some ns → RpA K S μ vs ds → vs = ns.map V.bl ∧ ds = ns.map D.bl
  | [], ns, vs, h, r => by
    cases h
    cases r
    exact ⟨rfl, rfl⟩
  | .bl i :: ds, ns, vs, h, r => by
    cases r with
    | cons a b =>
      cases e : blsOf ds with
      | none => unfold blsOf at h; rw [e] at h; cases h
      | some ms =>
        unfold blsOf at h
        rw [e] at h
        cases h
        obtain ⟨h1, h2⟩ := bls_rp e b
        rw [rp_bl a, h1, h2]
        exact ⟨rfl, rfl⟩
  | .non :: _, _, _, h, _ => by cases h
  | .int _ :: _, _, _, h, _ => by cases h
  | .str _ :: _, _, _, h, _ => by cases h
  | .tup _ :: _, _, _, h, _ => by cases h
  | .lst _ :: _, _, _, h, _ => by cases h
  | .scr _ :: _, _, _, h, _ => by cases h
  | .dic _ :: _, _, _, h, _ => by cases h
  | .ref _ :: _, _, _, h, _ => by cases h
@[simp] theorem intsOf_map (ns : List Int) : intsOf (ns.map D.int) = some ns := by
  induction ns with
  | nil => rfl
  | cons n r ih => rw [List.map_cons]; unfold intsOf; rw [ih]; rfl
@[simp] theorem blsOf_map (ns : List Bool) : blsOf (ns.map D.bl) = some ns := by
  induction ns with
  | nil => rfl
  | cons n r ih => rw [List.map_cons]; unfold blsOf; rw [ih]; rfl
theorem rp_ints : ∀ (ns : List Int), RpA K S μ (ns.map V.int) (ns.map D.int)
  | [] => .nil
  | n :: r => .cons (.int n) (rp_ints r)
def withInts (k : List Int → D → M D) (d : D) : M D := fun A => match asR A d with
  | some xs => match intsOf xs with
    | some ns => k ns d A
    | none => .un
  | none => .un
def sumOne : D → M D := withInts fun ns _ A => .ok (.int ns.sum) A
def maxI : List Int → Int
  | [] => 0
  | [x] => x
  | x :: r => max x (maxI r)
def minI : List Int → Int
  | [] => 0
  | [x] => x
  | x :: r => min x (minI r)
def maxOne : D → M D := withInts fun ns _ A => if 0 < ns.length then .ok (.int (maxI ns)) A else .un
def minOne : D → M D := withInts fun ns _ A => if 0 < ns.length then .ok (.int (minI ns)) A else .un
def maxD : List D → M D
  | [.int i, .int j] => fun A => .ok (.int (if j > i then j else i)) A
  | ds => one maxOne ds
def minD : List D → M D
  | [.int i, .int j] => fun A => .ok (.int (if j < i then j else i)) A
  | ds => one minOne ds
def allOne (d : D) : M D := fun A => match asR A d with
  | some xs => match blsOf xs with
    | some ns => .ok (.bl (ns.all fun b => b)) A
    | none => .un
  | none => .un
def anyOne (d : D) : M D := fun A => match asR A d with
  | some xs => match blsOf xs with
    | some ns => .ok (.bl (ns.any fun b => b)) A
    | none => .un
  | none => .un
def absOne : D → M D
  | .int i => fun A => .ok (.int (if i < 0 then -i else i)) A
  | _ => fun _ => .un
def intOne : D → M D
  | .int i => fun A => .ok (.int i) A
  | .bl k => fun A => .ok (.int (if k then 1 else 0)) A
  | _ => fun _ => .un
def strOne : D → M D
  | .int i => fun A => if i.natAbs.log2 < 1920 then .ok (.str (toString i)) A else .un
  | _ => fun _ => .un
theorem maxI_spec : ∀ (ns : List Int), 0 < ns.length → maxI ns ∈ ns ∧ ∀ y ∈ ns, y ≤ maxI ns
  | [], h => absurd h (Nat.lt_irrefl 0)
  | [x], _ => ⟨List.mem_singleton.mpr rfl, fun y hy => by rw [List.mem_singleton.mp hy]; exact Int.le_refl _⟩
  | x :: z :: r, _ => by
    obtain ⟨h1, h2⟩ := maxI_spec (z :: r) (Nat.succ_pos _)
    show max x (maxI (z :: r)) ∈ x :: z :: r ∧ ∀ y ∈ x :: z :: r, y ≤ max x (maxI (z :: r))
    refine ⟨?_, fun y hy => ?_⟩
    · by_cases q : maxI (z :: r) ≤ x
      · rw [show max x (maxI (z :: r)) = x by omega]; exact List.mem_cons_self
      · rw [show max x (maxI (z :: r)) = maxI (z :: r) by omega]; exact List.mem_cons_of_mem _ h1
    · rcases List.mem_cons.mp hy with rfl | hy
      · omega
      · have := h2 y hy; omega
theorem minI_spec : ∀ (ns : List Int), 0 < ns.length → minI ns ∈ ns ∧ ∀ y ∈ ns, minI ns ≤ y
  | [], h => absurd h (Nat.lt_irrefl 0)
  | [x], _ => ⟨List.mem_singleton.mpr rfl, fun y hy => by rw [List.mem_singleton.mp hy]; exact Int.le_refl _⟩
  | x :: z :: r, _ => by
    obtain ⟨h1, h2⟩ := minI_spec (z :: r) (Nat.succ_pos _)
    show min x (minI (z :: r)) ∈ x :: z :: r ∧ ∀ y ∈ x :: z :: r, min x (minI (z :: r)) ≤ y
    refine ⟨?_, fun y hy => ?_⟩
    · by_cases q : x ≤ minI (z :: r)
      · rw [show min x (minI (z :: r)) = x by omega]; exact List.mem_cons_self
      · rw [show min x (minI (z :: r)) = minI (z :: r) by omega]; exact List.mem_cons_of_mem _ h1
    · rcases List.mem_cons.mp hy with rfl | hy
      · omega
      · have := h2 y hy; omega
/-- what stands at a list of ints -/
theorem ints_at {W : WW} {σ : L2.St} {v : V} {d : D} {k : List Int → D → M D} {Q : VK} (w : Wd K mg S μ A H) (hd : RB K H S μ v d) (p : EPost K mg H S μ W σ (rE K) Q (withInts k d A)) :
    ∃ a ns, v = .ref a ∧ SqL K H a (ns.map V.int) ∧ EPost K mg H S μ W σ (rE K) Q (k ns d A) := by
  unfold withInts at p
  cases ex : asR A d with
  | none => rw [ex] at p; exact p.elim
  | some xs =>
    rw [ex] at p
    dsimp only at p
    cases ei : intsOf xs with
    | none => rw [ei] at p; exact p.elim
    | some ns =>
      rw [ei] at p
      obtain ⟨a, us, rfl, ha, ra⟩ := as_rd w hd ex
      obtain ⟨h1, h2⟩ := ints_rp ei ra
      rw [h1] at ha
      exact ⟨a, ns, rfl, ha, p⟩
theorem snd_sum : SndC K mg (rSum K) (one sumOne) := snd_one fun W σ H S μ A v d Q w hd p => by
  obtain ⟨a, ns, rfl, ha, p⟩ := ints_at w hd p
  exact ⟨a, ns, rfl, ha, ok_post w p (.int _)⟩
def rMaxX (K : PySem.W.Frag) : List V → Hp → VK → Prop := fun xs H Q => (∃ i j, xs = [.int i, .int j] ∧ Q (.int (if j > i then j else i)) H) ∨ rMax K xs H Q
def rMinX (K : PySem.W.Frag) : List V → Hp → VK → Prop := fun xs H Q => (∃ i j, xs = [.int i, .int j] ∧ Q (.int (if j < i then j else i)) H) ∨ rMin K xs H Q
theorem call_maxX {X : Cx} (hc : X.calm = true) : CallR X (.builtin "max") (rMaxX X.K) := (call_max2 hc).or (cr_max hc)
theorem call_minX {X : Cx} (hc : X.calm = true) : CallR X (.builtin "min") (rMinX X.K) := (call_min2 hc).or (cr_min hc)
theorem snd_max1 : SndC K mg (rMax K) (one maxOne) := snd_one fun W σ H S μ A v d Q w hd p => by
  obtain ⟨a, ns, rfl, ha, p⟩ := ints_at w hd p
  by_cases hz : 0 < ns.length
  · rw [if_pos hz] at p
    refine ⟨a, ns, rfl, ha, hz, fun m hm hall => ?_⟩
    obtain ⟨h1, h2⟩ := maxI_spec ns hz
    have e : m = maxI ns := Int.le_antisymm (h2 m hm) (hall _ h1)
    rw [e]
    exact ok_post w p (.int _)
  · rw [if_neg hz] at p; exact p.elim
theorem snd_min1 : SndC K mg (rMin K) (one minOne) := snd_one fun W σ H S μ A v d Q w hd p => by
  obtain ⟨a, ns, rfl, ha, p⟩ := ints_at w hd p
  by_cases hz : 0 < ns.length
  · rw [if_pos hz] at p
    refine ⟨a, ns, rfl, ha, hz, fun m hm hall => ?_⟩
    obtain ⟨h1, h2⟩ := minI_spec ns hz
    have e : m = minI ns := Int.le_antisymm (hall _ h1) (h2 m hm)
    rw [e]
    exact ok_post w p (.int _)
  · rw [if_neg hz] at p; exact p.elim
theorem two_or {ds : List D} {f : Int → Int → M D} {g : List D → M D} {F : List D → M D} (e : ∀ i j, F [.int i, .int j] = f i j) (e2 : (∀ i j, ds ≠ [.int i, .int j]) → F ds = g ds) {P : Prop} {A : AS} {Q : R D → Prop} (p : Q (F ds A)) (h1 : ∀ i j, ds = [.int i, .int j] → Q (f i j A) → P) (h2 : Q (g ds A) → P) : P := by
  by_cases h : ∃ i j, ds = [.int i, .int j]
  · obtain ⟨i, j, rfl⟩ := h
    rw [e] at p
    exact h1 i j rfl p
  · rw [e2 fun i j z => h ⟨i, j, z⟩] at p
    exact h2 p
theorem snd_max : SndC K mg (rMaxX K) maxD := by
  intro W σ H S μ A vs ds Q w hs p
  refine two_or (F := maxD) (f := fun i j A => .ok (.int (if j > i then j else i)) A) (g := one maxOne) (Q := EPost K mg H S μ W σ (rE K) Q) (fun _ _ => rfl) (fun h => ?_) p (fun i j e q => ?_) fun q => .inr (snd_max1 W σ H S μ A vs ds Q w hs q)
  · unfold maxD
    split
    · exact (h _ _ rfl).elim
    · rfl
  · subst e
    obtain ⟨v, v', rfl, h1, h2⟩ := rbs2 hs
    rw [rb_int h1, rb_int h2]
    exact .inl ⟨i, j, rfl, ok_post w q (.int _)⟩
theorem snd_min : SndC K mg (rMinX K) minD := by
  intro W σ H S μ A vs ds Q w hs p
  refine two_or (F := minD) (f := fun i j A => .ok (.int (if j < i then j else i)) A) (g := one minOne) (Q := EPost K mg H S μ W σ (rE K) Q) (fun _ _ => rfl) (fun h => ?_) p (fun i j e q => ?_) fun q => .inr (snd_min1 W σ H S μ A vs ds Q w hs q)
  · unfold minD
    split
    · exact (h _ _ rfl).elim
    · rfl
  · subst e
    obtain ⟨v, v', rfl, h1, h2⟩ := rbs2 hs
    rw [rb_int h1, rb_int h2]
    exact .inl ⟨i, j, rfl, ok_post w q (.int _)⟩
theorem snd_all : SndC K mg (rAll K) (one allOne) := snd_one fun W σ H S μ A v d Q w hd p => by
  unfold allOne at p
  cases ex : asR A d with
  | none => rw [ex] at p; exact p.elim
  | some xs =>
    rw [ex] at p
    dsimp only at p
    cases ei : blsOf xs with
    | none => rw [ei] at p; exact p.elim
    | some ns =>
      rw [ei] at p
      obtain ⟨a, us, rfl, ha, ra⟩ := as_rd w hd ex
      obtain ⟨h1, h2⟩ := bls_rp ei ra
      rw [h1] at ha
      exact ⟨a, ns, rfl, ha, ok_post w p (.bl _)⟩
theorem snd_any : SndC K mg (rAny K) (one anyOne) := snd_one fun W σ H S μ A v d Q w hd p => by
  unfold anyOne at p
  cases ex : asR A d with
  | none => rw [ex] at p; exact p.elim
  | some xs =>
    rw [ex] at p
    dsimp only at p
    cases ei : blsOf xs with
    | none => rw [ei] at p; exact p.elim
    | some ns =>
      rw [ei] at p
      obtain ⟨a, us, rfl, ha, ra⟩ := as_rd w hd ex
      obtain ⟨h1, h2⟩ := bls_rp ei ra
      rw [h1] at ha
      exact ⟨a, ns, rfl, ha, ok_post w p (.bl _)⟩
theorem snd_abs : SndC K mg (fun xs H Q => ∃ i, xs = [.int i] ∧ Q (.int (if i < 0 then -i else i)) H) (one absOne) := snd_one fun W σ H S μ A v d Q w hd p => by
  cases d with
  | int i => rw [rb_int hd]; exact ⟨i, rfl, ok_post w p (.int _)⟩
  | _ => exact p.elim
theorem snd_int : SndC K mg (fun xs H Q => (∃ i, xs = [.int i] ∧ Q (.int i) H) ∨ ∃ k, xs = [.bl k] ∧ Q (.int (if k then 1 else 0)) H) (one intOne) := snd_one fun W σ H S μ A v d Q w hd p => by
  cases d with
  | int i => rw [rb_int hd]; exact .inl ⟨i, rfl, ok_post w p (.int _)⟩
  | bl i => rw [rb_bl hd]; exact .inr ⟨i, rfl, ok_post w p (.int _)⟩
  | _ => exact p.elim
theorem snd_str : SndC K mg (fun xs H Q => ∃ i, xs = [.int i] ∧ i.natAbs.log2 < 1920 ∧ Q (.str (toString i)) H) (one strOne) := snd_one fun W σ H S μ A v d Q w hd p => by
  cases d with
  | int i =>
    rw [rb_int hd]
    dsimp only [strOne] at p
    by_cases hz : i.natAbs.log2 < 1920
    · rw [if_pos hz] at p
      exact ⟨i, rfl, hz, ok_post w p (.str _)⟩
    · rw [if_neg hz] at p; exact p.elim
  | _ => exact p.elim
/-! sorted of ints -/
def srtI (ns : List Int) : List Int := ns.mergeSort (fun a b => decide (a ≤ b))
theorem srtI_perm (ns : List Int) : (srtI ns).Perm ns := List.mergeSort_perm _ _
theorem srtI_sorted (ns : List Int) : (srtI ns).Pairwise (· ≤ ·) := by
  have z := List.pairwise_mergeSort (le := fun a b : Int => decide (a ≤ b)) (fun a b c h1 h2 => by simp at *; omega) (fun a b => by simp; omega) ns
  exact z.imp fun h => by simpa using h
theorem srtI_uniq {ns ms : List Int} (hp : ms.Perm ns) (hs : ms.Pairwise (· ≤ ·)) : ms = srtI ns :=
  List.Perm.eq_of_pairwise (fun a b _ _ h1 h2 => Int.le_antisymm h1 h2) hs (srtI_sorted ns) (hp.trans (srtI_perm ns).symm)
def srtOne : D → M D := withInts fun ns _ A => .ok (.lst ((srtI ns).map D.int)) A
theorem snd_srtI : SndC K mg (rSortedI K) (one srtOne) := snd_one fun W σ H S μ A v d Q w hd p => by
  obtain ⟨a, ns, rfl, ha, p⟩ := ints_at w hd p
  refine ⟨a, ns, rfl, ha, fun ns' q hp hs hq => ?_⟩
  rw [srtI_uniq hp hs]
  exact new_lst w p (rp_ints _) q hq
/-! list(..), tuple(..) -/
def listOne (d : D) : M (List D) := fun A => match d with
  | .tup xs => .ok xs A
  | d => match asR A d with
    | some xs => .ok xs A
    | none => .un
def tupOne (d : D) : M D := fun A => match d with
  | .tup xs => .ok (.tup xs) A
  | d => match asR A d with
    | some xs => .ok (.tup xs) A
    | none => .un
theorem snd_listF : SndCF K mg (rListS2 K) (oneF listOne) := snd_oneF fun W σ H S μ A v d Q w hd p => by
  have gen : ∀ (r : R (List D)), r = (match asR A d with
      | some xs => .ok xs A
      | none => .un) → EPost K mg H S μ W σ (rF K) Q r → rListS2 K [v] H Q := by
    intro r e p
    cases ex : asR A d with
    | none => rw [ex] at e; subst e; exact p.elim
    | some xs =>
      rw [ex] at e
      subst e
      obtain ⟨a, us, rfl, ha, ra⟩ := as_rd w hd ex
      exact ⟨a, us, rfl, .inl ha, new_own w p ra⟩
  cases d with
  | tup xs =>
    obtain ⟨a, us, rfl, ha, ra⟩ := rb_tup hd
    exact ⟨a, us, rfl, .inr (Same.sqT w.sub ha), new_own w p ra⟩
  | _ => exact gen _ rfl p
def rTupS2 (K : PySem.W.Frag) : List V → Hp → VK → Prop := fun xs H Q => ∃ p ys, xs = [.ref p] ∧ ((SqL K H p ys ∧ ∀ l, H l = none → Q (.ref l) (upd H l (.tup ys))) ∨ (SqT K H p ys ∧ Q (.ref p) H))
theorem snd_tuple : SndC K mg (rTupS2 K) (one tupOne) := snd_one fun W σ H S μ A v d Q w hd p => by
  have gen : ∀ (r : R D), r = (match asR A d with
      | some xs => .ok (.tup xs) A
      | none => .un) → EPost K mg H S μ W σ (rE K) Q r → rTupS2 K [v] H Q := by
    intro r e p
    cases ex : asR A d with
    | none => rw [ex] at e; subst e; exact p.elim
    | some xs =>
      rw [ex] at e
      subst e
      obtain ⟨a, us, rfl, ha, ra⟩ := as_rd w hd ex
      exact ⟨a, us, rfl, .inl ⟨ha, new_tup w p ra⟩⟩
  cases d with
  | tup xs =>
    obtain ⟨a, us, rfl, ha, ra⟩ := rb_tup hd
    exact ⟨a, us, rfl, .inr ⟨Same.sqT w.sub ha, ok_post w p (.tup ha ra)⟩⟩
  | _ => exact gen _ rfl p

/-! ### isinstance with a built-in class -/
def tyD (A : AS) : D → String
  | .non => "NoneType"
  | .bl _ => "bool"
  | .int _ => "int"
  | .str _ => "str"
  | .tup _ => "tuple"
  | .lst _ => "list"
  | .scr _ => "list"
  | .dic _ => "dict"
  | .ref n => match A[n]? with
    | some (.lst _) => "list"
    | some (.dic _) => "dict"
    | _ => ""
def isiB (t T : String) : Bool := t == T || (t == "bool" && T == "int")
def tyOk (T : String) : Bool := T == "int" || T == "bool" || T == "str" || T == "tuple" || T == "list" || T == "dict"
def isiD (T : String) (d : D) : M D := fun A => if tyD A d = "" then .un else .ok (.bl (isiB (tyD A d) T)) A
theorem kit_all {t T : String} (ht : t = "NoneType" ∨ t = "bool" ∨ t = "int" ∨ t = "str" ∨ t = "tuple" ∨ t = "list" ∨ t = "dict") (hT : tyOk T = true) : kitB t T = some (isiB t T) := by
  have h : T = "int" ∨ T = "bool" ∨ T = "str" ∨ T = "tuple" ∨ T = "list" ∨ T = "dict" := by
    simpa [tyOk, or_assoc] using hT
  rcases h with rfl | rfl | rfl | rfl | rfl | rfl <;> rcases ht with rfl | rfl | rfl | rfl | rfl | rfl | rfl <;> decide +kernel
theorem tyx_of (w : Wd K mg S μ A H) {v : V} {d : D} (h : RB K H S μ v d) (hd : tyD A d ≠ "") : TyX K H v (.type (tyD A d)) ∧ (tyD A d = "NoneType" ∨ tyD A d = "bool" ∨ tyD A d = "int" ∨ tyD A d = "str" ∨ tyD A d = "tuple" ∨ tyD A d = "list" ∨ tyD A d = "dict") := by
  have lst : ∀ {a : Addr} {vs : List V}, SqL K H a vs → TyX K H (.ref a) (.type "list") := fun {a vs} h => by
    rcases h with (h | ⟨o, h⟩) | ⟨o, its, n, h1, h2, _⟩
    · exact .base (.lst h)
    · exact .base (.frz h)
    · exact .kList h1 h2
  have dic : ∀ {a : Addr} {vs : List (D × V)}, DAt H a vs → TyX K H (.ref a) (.type "dict") := fun {a vs} h => by
    cases h with
    | k h => exact .base (.dK h)
    | t h => exact .base (.dT h)
  cases d with
  | non => rw [rb_non h]; exact ⟨.base .non, by simp [tyD]⟩
  | bl b => rw [rb_bl h]; exact ⟨.base (.bl b), by simp [tyD]⟩
  | int b => rw [rb_int h]; exact ⟨.base (.int b), by simp [tyD]⟩
  | str b => rw [rb_str h]; exact ⟨.base (.str b), by simp [tyD]⟩
  | tup xs =>
    obtain ⟨a, vs, rfl, ha, _⟩ := rb_tup h
    refine ⟨?_, by simp [tyD]⟩
    rcases Same.sqT w.sub ha with (h | ⟨o, h⟩) | ⟨o, its, n, h1, h2, _⟩
    · exact .base (.tup h)
    · exact .fTuple h
    · exact .kTuple h1 h2
  | lst xs =>
    obtain ⟨a, vs, rfl, ha, _⟩ := rb_lst w h
    exact ⟨lst (.inl (.inl ha)), by simp [tyD]⟩
  | scr xs =>
    obtain ⟨a, vs, rfl, ha, _⟩ := as_rd w h rfl
    exact ⟨lst ha, by simp [tyD]⟩
  | dic kvs =>
    refine ⟨?_, by simp [tyD]⟩
    cases h with
    | rp h => cases h with | dic a b => exact dic (a.mono w.sub)
    | od h _ _ => exact dic h
  | ref n =>
    unfold tyD at hd ⊢
    dsimp only at hd ⊢
    cases h with
    | rp h =>
      cases h with
      | ref hm =>
        split at hd
        · rename_i xs hx
          obtain ⟨vs, h1, _⟩ := w.cell n _ _ hx hm
          exact ⟨lst (.inl (.inl h1)), by simp⟩
        · rename_i xs hx
          obtain ⟨vs, h1, _⟩ := w.cell n _ _ hx hm
          exact ⟨dic h1, by simp⟩
        · exact absurd rfl hd
theorem pu_isi {T : String} {y : Str} {p p2 pos : Pos} (hT : tyOk T = true) (ha : PuB X W a ta f) (hg : Gl X "isinstance") (hm : X.mg "isinstance" = none) (hg2 : Gl X y) (hm2 : X.mg y = none) (hv : bootBuiltins y = some (.type T)) (hn : y ≠ "__name__" := by decide)
    (hd : (y == ("__debug__" : Str)) = false := by decide) (he : starEach [a, .Name y p2] X.env = (false, eval a X.env) :: starEach [.Name y p2] X.env := by rfl) (he2 : starEach [.Name y p2] X.env = (false, eval (.Name y p2) X.env) :: starEach [] X.env := by rfl) (hpl : (backTo pos (starEach [.Name y p2] X.env)).any (·.1) = false := by rfl) (hv2 : bootBuiltins "isinstance" = some (.builtin "isinstance") := by decide +kernel) :
    PuE X W (.Call (.Name "isinstance" p) [a, .Name y p2] [] pos) (tCB (rIsi X.K) (tCons ta (tCons (tC (.ty T)) tNil))) (eUn (isiD T) f) :=
  ⟨pe_callB call_isi hg hm hv2 (pa_cons ha.der (pa_cons (pe_bltn hg2 hm2 hv rfl hn hd) pa_nil he2) he) (by decide) (by decide) he hpl, fun B σ δ H S μ A Q s p =>
    ha.snd B σ δ H S μ A _ s (EPost.bind up_E s.h0 p fun x A1 v H1 S1 μ1 n1 r1 p1 => by
      unfold isiD at p1
      by_cases hx : tyD A1 x = ""
      · rw [if_pos hx] at p1; exact p1.elim
      · rw [if_neg hx] at p1
        obtain ⟨h1, h2⟩ := tyx_of n1.wd r1 hx
        exact ⟨v, .ty T, _, _, _, rfl, .ty T, h1, kit_ty (kit_all h2 hT), ok_post n1.wd p1 (.bl _)⟩)⟩
end
end Pv

noncomputable section
namespace Pv
open PySem PySem.Spec L2
open PyProof.Rows hiding St

/-! ### slots set -/
section
variable {K : PySem.W.Frag} {mg : Str → Option Value} {B : Base} {σ : L2.St} {δ : Env} {H S H' S' : Hp} {μ μ' : List Addr} {A A' : AS} {W : WW}
theorem set_get {σ : L2.St} {i j : Nat} {o : Option V} (h : i ≠ j) : (σ.set i o)[j]? = σ[j]? := List.getElem?_set_ne h
theorem StR.setAny {i : Nat} {x : Sl} {o : Option V} (s : StR W.xs K mg B σ δ H S μ A) (hx : SlotR W.xs K mg S μ H x (some o)) (hf : ∀ p, isOwn x = true → o = some (.ref p) → B.H p = none ∧ ∀ j, OwnAt δ σ j p → j = i) :
    StR W.xs K mg B (σ.set i o) (sset δ i x) H S μ A := by
  by_cases hi : i < σ.length
  · have hi' : i < δ.length := by rw [s.len]; exact hi
    have own : ∀ j p, OwnAt (sset δ i x) (σ.set i o) j p → (j ≠ i ∧ OwnAt δ σ j p) ∨ (j = i ∧ isOwn x = true ∧ o = some (.ref p)) := fun j p ⟨h1, h2⟩ => by
      by_cases e : j = i
      · subst e
        rw [sget_sset_same hi'] at h1
        rw [List.getElem?_set_self hi] at h2
        exact .inr ⟨rfl, h1, Option.some.inj h2⟩
      · rw [sget_sset_ne (Ne.symm e)] at h1
        rw [set_get (Ne.symm e)] at h2
        exact .inl ⟨e, h1, h2⟩
    refine ⟨s.nx, s.b0, by rw [sset_length, List.length_set, s.len], fun j => ?_, fun j p h => ?_, fun j k p h1 h2 => ?_⟩
    · by_cases e : i = j
      · subst e
        rw [sget_sset_same hi', List.getElem?_set_self hi]
        exact hx
      · rw [sget_sset_ne e, set_get e]
        exact s.sl j
    · rcases own j p h with ⟨_, h⟩ | ⟨_, h1, h2⟩
      · exact s.fr j p h
      · exact (hf p h1 h2).1
    · rcases own j p h1 with ⟨n1, h1⟩ | ⟨e1, h1, o1⟩ <;> rcases own k p h2 with ⟨n2, h2⟩ | ⟨e2, h2, o2⟩
      · exact s.ap j k p h1 h2
      · exact absurd ((hf p h2 o2).2 j h1) n1
      · exact absurd ((hf p h1 o1).2 k h2) n2
      · rw [e1, e2]
  · have e1 : σ.set i o = σ := List.set_eq_of_length_le (Nat.le_of_not_lt hi)
    have e2 : sset δ i x = δ := by
      have : δ.length ≤ i := by rw [s.len]; exact Nat.le_of_not_lt hi
      clear s hf
      induction δ generalizing i with
      | nil => rfl
      | cons y r ih =>
        cases i with
        | zero => exact absurd this (Nat.not_succ_le_zero _)
        | succ i =>
          show y :: sset r i x = y :: r
          have hz : r.length ≤ i := Nat.le_of_succ_le_succ this
          clear ih
          have key : ∀ (r : Env) (i : Nat), r.length ≤ i → sset r i x = r := by
            intro r
            induction r with
            | nil => intro i _; rfl
            | cons z q ih =>
              intro i hi
              cases i with
              | zero => exact absurd hi (Nat.not_succ_le_zero _)
              | succ i =>
                show z :: sset q i x = z :: q
                rw [ih i (Nat.le_of_succ_le_succ hi)]
          rw [key r i hz]
    rw [e1, e2]
    exact s
theorem StR.setSh {i : Nat} {v : V} {d : D} (s : StR W.xs K mg B σ δ H S μ A) (r : Rp K S μ v d) : StR W.xs K mg B (σ.set i (some v)) (sset δ i (.sh d)) H S μ A :=
  s.setAny ⟨v, rfl, r⟩ fun _ h _ => nomatch h
/-- an address that no slot owns -/
theorem StR.notOwn (s : StR W.xs K mg B σ δ H S μ A) {p : Addr} (h : H p = none) (j : Nat) : ¬ OwnAt δ σ j p := fun ⟨h1, h2⟩ => by
  have z := s.sl j
  generalize sget δ j = x at h1 z
  cases x with
  | ow xs =>
    obtain ⟨q, vs, e, h3, _⟩ := z
    rw [h2] at e
    cases e
    rw [h] at h3
    cases h3
  | od xs =>
    obtain ⟨q, vs, e, h3, _⟩ := z
    rw [h2] at e
    cases e
    exact h3.some h
  | _ => cases h1
theorem StR.setOw {i : Nat} {p : Addr} {vs : List V} {ds : List D} (s : StR W.xs K mg B σ δ H S μ A) (h0 : B.H p = none) (hn : ∀ j, ¬ OwnAt δ σ j p) (h1 : H p = some (.lst vs)) (h2 : S p = none) (h3 : p ∉ μ) (r : RpA K S μ vs ds) :
    StR W.xs K mg B (σ.set i (some (.ref p))) (sset δ i (.ow ds)) H S μ A :=
  s.setAny ⟨p, vs, rfl, h1, h2, h3, r⟩ fun q _ e => by
    cases e
    exact ⟨h0, fun j h => absurd h (hn j)⟩

/-! ### targets -/
def SndG (K : PySem.W.Frag) (mg : Str → Option Value) (g : TG) (tgt : D → Env → Option Env) (ns : List Nat) : Prop :=
  ∀ (W : WW) B σ δ H S μ A v d δ' (Q : L2.St → Hp → Prop), StR W.xs K mg B σ δ H S μ A → Rp K S μ v d → tgt d δ = some δ' → (∀ σ', StR W.xs K mg B σ' δ' H S μ A → (∀ j, j ∉ ns → σ'[j]? = σ[j]?) → σ'.length = σ.length → Q σ' H) → g v σ H Q
def SndGs (K : PySem.W.Frag) (mg : Str → Option Value) (g : TGs) (tgt : List D → Env → Option Env) (ns : List Nat) : Prop :=
  ∀ (W : WW) B σ δ H S μ A v d δ' (Q : L2.St → Hp → Prop), StR W.xs K mg B σ δ H S μ A → RpA K S μ v d → tgt d δ = some δ' → (∀ σ', StR W.xs K mg B σ' δ' H S μ A → (∀ j, j ∉ ns → σ'[j]? = σ[j]?) → σ'.length = σ.length → Q σ' H) → g v σ H Q
structure PuG (X : Cx) (tg : Expr) (g : TG) (tgt : D → Env → Option Env) (ns : List Nat) : Prop where
  der : PG X tg g
  snd : SndG X.K X.mg g tgt ns
structure PuGs (X : Cx) (tg : List Expr) (g : TGs) (tgt : List D → Env → Option Env) (ns : List Nat) : Prop where
  der : PGs X tg g
  snd : SndGs X.K X.mg g tgt ns
def gN (i : Nat) : D → Env → Option Env := fun d δ => some (sset δ i (.sh d))
def gsNil : List D → Env → Option Env := fun ds δ => match ds with
  | [] => some δ
  | _ :: _ => none
def gsCons (a : D → Env → Option Env) (b : List D → Env → Option Env) : List D → Env → Option Env := fun ds δ => match ds with
  | [] => none
  | d :: r => (a d δ).bind fun δ' => b r δ'
def gT (n : Nat) (b : List D → Env → Option Env) : D → Env → Option Env := fun d δ => match d with
  | .tup ds => if ds.length = n then b ds δ else none
  | _ => none
variable {X : Cx} {pos : Pos} {e : Expr} {es : List Expr} {g : TG} {gs : TGs} {tgt : D → Env → Option Env} {tgts : List D → Env → Option Env} {ns ms : List Nat}
theorem pug_name {i : Nat} {x : Str} (d : PG X (.Name x pos) (gName i)) : PuG X (.Name x pos) (gName i) (gN i) [i] := ⟨d, fun W B σ δ H S μ A v d δ' Q s r h k => by
  have e : sset δ i (.sh d) = δ' := Option.some.inj h
  subst e
  exact k _ (s.setSh r) (fun j hj => set_get (fun z => hj (by rw [z]; exact List.mem_singleton.mpr rfl))) (List.length_set ..)⟩
theorem pugs_nil : PuGs X [] gNil gsNil [] := ⟨pgs_nil, fun W B σ δ H S μ A v d δ' Q s r h k => by
  cases r with
  | nil =>
    have e : δ = δ' := Option.some.inj h
    subst e
    exact ⟨rfl, k σ s (fun _ _ => rfl) rfl⟩
  | cons a b => cases h⟩
theorem pugs_cons (h1 : PuG X e g tgt ns) (h2 : PuGs X es gs tgts ms) (hs : (assignEach (e :: es) X.env).map (·.2) = assign e X.env :: (assignEach es X.env).map (·.2) := by rfl) : PuGs X (e :: es) (gCons g gs) (gsCons tgt tgts) (ns ++ ms) := ⟨pgs_cons h1.der h2.der hs, fun W B σ δ H S μ A v d δ' Q s r h k => by
  cases r with
  | nil => cases h
  | @cons v vs d ds a b =>
    cases e1 : tgt d δ with
    | none =>
      dsimp only [gsCons] at h
      rw [e1] at h
      cases h
    | some δ1 =>
      dsimp only [gsCons] at h
      rw [e1] at h
      exact ⟨v, vs, rfl, h1.snd W B σ δ H S μ A v d δ1 _ s a e1 fun σ1 s1 f1 l1 => h2.snd W B σ1 δ1 H S μ A vs ds δ' Q s1 b h fun σ2 s2 f2 l2 => k σ2 s2 (fun j hj => (f2 j fun z => hj (List.mem_append_right _ z)).trans (f1 j fun z => hj (List.mem_append_left _ z))) (l2.trans l1)⟩⟩
theorem pug_tup {k n : Nat} (hc : X.calm = true) (h : PuGs X es gs tgts ns) (hn : (assignEach es X.env).length = n := by rfl) (hst : (assignEach es X.env).findIdx? (·.1) = none := by rfl) : PuG X (.Tuple es k pos) (gTup X.K n gs) (gT n tgts) ns := ⟨pg_tup hc h.der hn hst, fun W B σ δ H S μ A v d δ' Q s r hh kk => by
  cases d with
  | tup ds =>
    dsimp only [gT] at hh
    by_cases hl : ds.length = n
    · rw [if_pos hl] at hh
      cases r with
      | tup a b => exact ⟨_, _, rfl, Same.sqT s.wd.sub a, b.length.trans hl, h.snd W B σ δ H S μ A _ ds δ' Q s b hh kk⟩
    · rw [if_neg hl] at hh
      cases hh
  | _ => cases hh⟩

/-! ### what is walked -/
structure ItR (K : PySem.W.Frag) (J : It) (ds : List D) (S1 : Hp) (μ1 : List Addr) : Prop where
  step : ∀ i d H2 S2, ds[i]? = some d → Same S1 S2 → Same S2 H2 → J.go i H2 ∧ ∀ x H3, J.yld i H2 x H3 → (H3 = H2 ∧ Rp K S2 μ1 x d) ∨ ∃ T vs es, x = .ref T ∧ H2 T = none ∧ H3 = upd H2 T (.tup vs) ∧ d = .tup es ∧ RpA K S2 μ1 vs es
  stop : ∀ i H2 S2, ds.length ≤ i → Same S1 S2 → Same S2 H2 → J.stop i H2
abbrev rI (K : PySem.W.Frag) : Rel It (List D) := fun _ _ S μ J ds => ItR K J ds S μ
theorem up_I {K : PySem.W.Frag} : Up (rI K) := fun _ _ _ _ _ _ _ _ h => h
structure PuI (X : Cx) (W : WW) (tg iter : Expr) (wi : TI) (f : Env → M (List D)) : Prop where
  der : PI X tg iter wi
  snd : Snd X.K X.mg W (rI X.K) wi f
/-- a list or a tuple, as it comes -/
def iSeq (K : PySem.W.Frag) (tl : TE) : TI := fun σ H R => tl σ H fun x H1 => ∃ a, x = .ref a ∧ (((∃ xs, SqL K H1 a xs) ∧ R (Itl K a) H1) ∨ ((∃ xs, SqT K H1 a xs) ∧ R (Itt K a) H1))
variable {tg l : Expr} {tl : TE} {f : Env → M D}
theorem pi_seqA (hl : PE X l tl) : PI X tg l (iSeq X.K tl) := PI.mk fun pins s σ H R inv hyp =>
  wpAny_mono (hl.run pins s σ H _ inv hyp) (fun v s1 ⟨x, H1, I1, r1, a, hx, q⟩ => by
    subst hx
    cases r1
    have fresh : ∀ b ∈ [s1.heap.objs.size], FpOk X pins H1 b := fun b hb => by
      rw [List.mem_singleton.mp hb]
      exact I1.fpOk (Nat.le_refl _) (I1.hok.fresh (Nat.le_refl _))
    rcases q with ⟨⟨xs, hq⟩, q⟩ | ⟨⟨xs, hq⟩, q⟩
    · obtain ⟨its, rv, p, hz⟩ := I1.list hq
      exact wpAny_pyIter_list p.isList ⟨s1.heap.objs.size, [s1.heap.objs.size], _, Itl X.K a, H1, rfl, I1.kept (t' := s1.toks) (fun b o e => Heap.get?_push_of_some _ e), turn_list a _, ⟨_, Heap.get?_push_size _ rfl, rfl, rfl⟩, fresh, q⟩
    · obtain ⟨its, rv, p, hz⟩ := I1.tuple hq
      exact wpAny_pyIter_tuple (show s1.heap.IsTuple a its.toArray from p) ⟨s1.heap.objs.size, [s1.heap.objs.size], _, Itt X.K a, H1, rfl, I1.kept (t' := s1.toks) (fun b o e => Heap.get?_push_of_some _ e), turn_tuple a _, ⟨_, Heap.get?_push_size _ rfl, rfl, rfl⟩, fresh, q⟩)
    fun _ _ z => z
def wSeq (f : Env → M D) : Env → M (List D) := fun δ A => (f δ A).bind fun d A1 => match d with
  | .lst ds => .ok ds A1
  | .scr ds => .ok ds A1
  | .tup ds => .ok ds A1
  | _ => .un
theorem itr_list {a : Addr} {vs : List V} {ds : List D} (h : SqL K S a vs) (r : RpA K S μ vs ds) : ItR K (Itl K a) ds S μ where
  step i d H2 S2 hi h1 h2 := by
    obtain ⟨v, hv, rv⟩ := r.get hi
    have hq : SqL K H2 a vs := Same.seq (h1.trans h2) h
    exact ⟨⟨vs, v, hq, hv⟩, fun x H3 y => .inl ⟨y.1, by
      have e := y.2 vs hq
      rw [hv] at e
      cases e
      exact rv.sub h1⟩⟩
  stop i H2 S2 hi h1 h2 := ⟨vs, Same.seq (h1.trans h2) h, by rw [r.length]; exact hi⟩
theorem itr_tup {a : Addr} {vs : List V} {ds : List D} (h : SqT K S a vs) (r : RpA K S μ vs ds) : ItR K (Itt K a) ds S μ where
  step i d H2 S2 hi h1 h2 := by
    obtain ⟨v, hv, rv⟩ := r.get hi
    have hq : SqT K H2 a vs := Same.sqT (h1.trans h2) h
    exact ⟨⟨vs, v, hq, hv⟩, fun x H3 y => .inl ⟨y.1, by
      have e := y.2 vs hq
      rw [hv] at e
      cases e
      exact rv.sub h1⟩⟩
  stop i H2 S2 hi h1 h2 := ⟨vs, Same.sqT (h1.trans h2) h, by rw [r.length]; exact hi⟩
theorem pui_seq (h : PuE X W l tl f) : PuI X W tg l (iSeq X.K tl) (wSeq f) := ⟨pi_seqA h.der, fun B σ δ H S μ A Q s p =>
  h.snd B σ δ H S μ A _ s (EPost.bind up_I s.h0 p fun x A1 v H1 S1 μ1 n1 r1 p1 => by
    cases x with
    | lst ds => cases r1 with | lst a b => exact ⟨_, rfl, .inl ⟨⟨_, .inl (.inl (n1.wd.sub _ _ a))⟩, p1 _ H1 S1 μ1 (Nxt.refl n1.wd) (itr_list (.inl (.inl a)) b)⟩⟩
    | scr ds => cases r1 with | scr a b => exact ⟨_, rfl, .inl ⟨⟨_, Same.seq n1.wd.sub a⟩, p1 _ H1 S1 μ1 (Nxt.refl n1.wd) (itr_list a b)⟩⟩
    | tup ds => cases r1 with | tup a b => exact ⟨_, rfl, .inr ⟨⟨_, Same.sqT n1.wd.sub a⟩, p1 _ H1 S1 μ1 (Nxt.refl n1.wd) (itr_tup a b)⟩⟩
    | _ => exact p1.elim)⟩
/-! ranges -/
def rngL (lo : Int) (n : Nat) : List D := (List.range n).map fun (k : Nat) => D.int (lo + (k : Int))
def small62 (i : Int) : Bool := @decide (-(2 ^ 62) ≤ i ∧ i < 2 ^ 62) (Classical.propDecidable _)
def wRng1 (fa : Env → M (List D)) : Env → M (List D) := fun δ A => (fa δ A).bind fun ds A1 => match ds with
  | [.int j] => if small62 j = true then .ok (rngL 0 j.toNat) A1 else .un
  | _ => .un
def wRng2 (fa : Env → M (List D)) : Env → M (List D) := fun δ A => (fa δ A).bind fun ds A1 => match ds with
  | [.int i, .int j] => if (small62 i && small62 j) = true then .ok (rngL i (j - i).toNat) A1 else .un
  | _ => .un
theorem itr_rng {lo : Int} {n : Nat} : ItR K (Itr lo n) (rngL lo n) S μ where
  step i d H2 S2 hi h1 h2 := by
    unfold rngL at hi
    rw [List.getElem?_map] at hi
    cases e : (List.range n)[i]? with
    | none => rw [e] at hi; cases hi
    | some k =>
      rw [e] at hi
      obtain ⟨h3, h4⟩ := List.getElem?_eq_some_iff.mp e
      rw [List.getElem_range] at h4
      subst h4
      cases hi
      rw [List.length_range] at h3
      exact ⟨h3, fun x H3 y => .inl ⟨y.1, by rw [y.2]; exact .int _⟩⟩
  stop i H2 S2 hi h1 h2 := by
    unfold rngL at hi
    rw [List.length_map, List.length_range] at hi
    exact hi
variable {a b : Expr} {tA : TA} {fa : Env → M (List D)}
theorem pui_rng1 {p pos : Pos} (hg : Gl X "range") (hm : X.mg "range" = none) (ha : PuA X W [a] tA fa) (hs : starEach [a] X.env = [(false, eval a X.env)] := by rfl) : PuI X W tg (.Call (.Name "range" p) [a] [] pos) (iRng1 tA) (wRng1 fa) := ⟨pi_range1 hg hm ha.der hs, fun B σ δ H S μ A Q s p =>
  ha.snd B σ δ H S μ A _ s (EPost.bind up_I s.h0 p fun x A1 v H1 S1 μ1 n1 r1 p1 => by
    split at p1
    · rename_i j
      cases r1 with
      | cons c d =>
        cases d
        by_cases hj : small62 j = true
        · rw [if_pos hj] at p1
          have z := @of_decide_eq_true _ (Classical.propDecidable _) hj
          exact ⟨j, by rw [rp_int c], z.1, z.2, p1 _ H1 S1 μ1 (Nxt.refl n1.wd) itr_rng⟩
        · rw [if_neg hj] at p1; exact p1.elim
    · exact p1.elim)⟩
theorem pui_rng2 {p pos : Pos} (hg : Gl X "range") (hm : X.mg "range" = none) (ha : PuA X W [a, b] tA fa) (hs : starEach [a, b] X.env = [(false, eval a X.env), (false, eval b X.env)] := by rfl) (hs2 : starEach [b] X.env = [(false, eval b X.env)] := by rfl) :
    PuI X W tg (.Call (.Name "range" p) [a, b] [] pos) (iRng2 tA) (wRng2 fa) := ⟨pi_range2 hg hm ha.der hs hs2, fun B σ δ H S μ A Q s p =>
  ha.snd B σ δ H S μ A _ s (EPost.bind up_I s.h0 p fun x A1 v H1 S1 μ1 n1 r1 p1 => by
    split at p1
    · rename_i i j
      cases r1 with
      | cons c d =>
        cases d with
        | cons c2 d2 =>
          cases d2
          by_cases hj : (small62 i && small62 j) = true
          · rw [if_pos hj] at p1
            rw [Bool.and_eq_true] at hj
            have z := @of_decide_eq_true _ (Classical.propDecidable _) hj.1
            have z2 := @of_decide_eq_true _ (Classical.propDecidable _) hj.2
            exact ⟨i, j, by rw [rp_int c, rp_int c2], ⟨z.1, z.2, z2.1, z2.2⟩, p1 _ H1 S1 μ1 (Nxt.refl n1.wd) itr_rng⟩
          · rw [if_neg hj] at p1; exact p1.elim
    · exact p1.elim)⟩
/-! a text, sign by sign -/
def chrs (x : Str) : List D := x.cps.toList.map fun c => .str ⟨#[c]⟩
def wStr (f : Env → M D) : Env → M (List D) := fun δ A => (f δ A).bind fun d A1 => match d with
  | .str x => .ok (chrs x) A1
  | _ => .un
theorem itr_str {x : Str} : ItR K (Its x) (chrs x) S μ where
  step i d H2 S2 hi h1 h2 := by
    unfold chrs at hi
    rw [List.getElem?_map] at hi
    cases e : x.cps.toList[i]? with
    | none => rw [e] at hi; cases hi
    | some k =>
      rw [e] at hi
      cases hi
      have e' : x.cps[i]? = some k := by rw [← e]; simp
      obtain ⟨h3, _⟩ := List.getElem?_eq_some_iff.mp e
      refine ⟨by show i < x.cps.size; simpa using h3, fun y H3 q => .inl ⟨q.1, ?_⟩⟩
      obtain ⟨c, hc, rfl⟩ := q.2
      rw [e'] at hc
      cases hc
      exact .str _
  stop i H2 S2 hi h1 h2 := by
    unfold chrs at hi
    rw [List.length_map] at hi
    show x.cps.size ≤ i
    simpa using hi
theorem pui_str (h : PuE X W l tl f) : PuI X W tg l (iStr tl) (wStr f) := ⟨pi_str h.der, fun B σ δ H S μ A Q s p =>
  h.snd B σ δ H S μ A _ s (EPost.bind up_I s.h0 p fun x A1 v H1 S1 μ1 n1 r1 p1 => by
    cases x with
    | str ds => exact ⟨ds, rp_str r1, p1 _ H1 S1 μ1 (Nxt.refl n1.wd) itr_str⟩
    | _ => exact p1.elim)⟩

/-! ### comprehensions -/
def wipeE (δ : Env) : List Nat → Env
  | [] => δ
  | v :: vs => sset (wipeE δ vs) v .un
theorem StR.setUn {i : Nat} (s : StR W.xs K mg B σ δ H S μ A) : StR W.xs K mg B (σ.set i none) (sset δ i .un) H S μ A := s.setAny (x := .un) trivial fun _ h _ => nomatch h
theorem StR.wipe (s : StR W.xs K mg B σ δ H S μ A) : ∀ vs : List Nat, StR W.xs K mg B (wipe σ vs) (wipeE δ vs) H S μ A
  | [] => s
  | v :: vs => (StR.wipe s vs).setUn
theorem wipe_get : ∀ {vs : List Nat} {σ : L2.St} {j : Nat}, j ∉ vs → (wipe σ vs)[j]? = σ[j]?
  | [], _, _, _ => rfl
  | v :: vs, σ, j, h => by
    unfold L2.wipe
    rw [set_get (fun e => h (by rw [e]; exact List.mem_cons_self)), wipe_get (fun z => h (List.mem_cons_of_mem _ z))]
theorem wipe_in : ∀ {vs : List Nat} {σ : L2.St} {j : Nat}, j ∈ vs → j < σ.length → (wipe σ vs)[j]? = some none
  | v :: vs, σ, j, h, hl => by
    unfold L2.wipe
    by_cases e : v = j
    · subst e
      rw [List.getElem?_set_self (by rw [wipe_length]; exact hl)]
    · rw [set_get e]
      rcases List.mem_cons.mp h with z | z
      · exact absurd z.symm e
      · exact wipe_in z hl
theorem wipe_same {vs : List Nat} {σ τ : L2.St} (h : ∀ j, j ∉ vs → τ[j]? = σ[j]?) (hl : τ.length = σ.length) : wipe τ vs = wipe σ vs := by
  refine List.ext_getElem? fun j => ?_
  by_cases hj : j ∈ vs
  · by_cases hlt : j < σ.length
    · rw [wipe_in hj hlt, wipe_in hj (by rw [hl]; exact hlt)]
    · rw [List.getElem?_eq_none (by rw [wipe_length, hl]; exact Nat.le_of_not_lt hlt), List.getElem?_eq_none (by rw [wipe_length]; exact Nat.le_of_not_lt hlt)]
  · rw [wipe_get hj, wipe_get hj, h j hj]
theorem wipe_wipe {vs : List Nat} {σ : L2.St} : wipe (wipe σ vs) vs = wipe σ vs := wipe_same (fun _ hj => wipe_get hj) (wipe_length _ _)
/-- within a comprehension nothing is raised -/
def R.noex {α : Type} : R α → R α
  | .ex _ _ => .un
  | r => r
@[simp] theorem R.noex_ok {α : Type} (a : α) (A : AS) : (R.ok a A).noex = .ok a A := (rfl)
@[simp] theorem R.noex_un {α : Type} : (R.un : R α).noex = .un := (rfl)
@[simp] theorem R.noex_ex {α : Type} (e : Exc) (A : AS) : (R.ex e A : R α).noex = .un := (rfl)
def lcN (tgt : D → Env → Option Env) (tt : Env → M Bool) (el : Env → M D) (δ : Env) : List D → List D → M (List D)
  | [], acc => fun A => .ok acc A
  | d :: r, acc => fun A => match tgt d δ with
    | none => .un
    | some δ1 => (tt δ1 A).noex.bind fun b A1 => if b = true then (el δ1 A1).noex.bind fun y A2 => if szOk (acc.length + 1) = true then lcN tgt tt el δ r (acc ++ [y]) A2 else .un else lcN tgt tt el δ r acc A1
def eLc (vs : List Nat) (src : Env → M (List D)) (tgt : D → Env → Option Env) (tt : Env → M Bool) (el : Env → M D) : Env → M (List D) := fun δ A => (src δ A).bind fun ds A1 => lcN tgt tt el (wipeE δ vs) ds [] A1
def cYes : Env → M Bool := fun _ A => .ok true A
structure PuTs (X : Cx) (W : WW) (ifs : List Expr) (t : TT) (f : Env → M Bool) : Prop where
  der : PTs X ifs t
  snd : Snd X.K X.mg W rT t f
theorem puts_nil : PuTs X W [] tYes cYes := ⟨pts_nil, fun B σ δ H S μ A Q s p => p true H S μ (Nxt.refl s.wd) rfl⟩
theorem puts_one {c : Expr} {t : TT} {f : Env → M Bool} (h : PuT X W c t f) : PuTs X W [c] t f := ⟨pts_one h.der, h.snd⟩
theorem szOk_lt {n : Nat} (h : szOk (n + 1) = true) : n < sizeLine := Nat.lt_of_succ_le (szOk_le h)
abbrev WW.quiet (W : WW) : WW := ⟨fun _ _ _ _ => False, W.xs⟩
/-- what a walked thing yields, in the state -/
theorem ItR.yields {J : It} {ds : List D} {S1 : Hp} {μ1 e : List Addr} (it : ItR K J ds S1 μ1) {i : Nat} {d : D} (hd : ds[i]? = some d) (s : StR W.xs K mg B σ δ H S (μ1 ++ e) A) (h1 : Same S1 S) {x : V} {H3 : Hp} (y : J.yld i H x H3) :
    ∃ S3, Same S S3 ∧ StR W.xs K mg B σ δ H3 S3 (μ1 ++ e) A ∧ Rp K S3 (μ1 ++ e) x d ∧ Nxt K mg H S (μ1 ++ e) A H3 S3 (μ1 ++ e) := by
  rcases (it.step i d H S hd h1 s.wd.sub).2 x H3 y with ⟨rfl, r⟩ | ⟨T, vs, es, rfl, hT, rfl, rfl, r⟩
  · exact ⟨S, Same.refl _, s, r.mono (Same.refl _), Nxt.refl s.wd⟩
  · have n := Nxt.new (o := .tup vs) s.wd hT
    exact ⟨_, n.sub, s.step n, .tup (.inl (.inl upd_same)) (r.mono n.sub), n⟩
theorem snd_lc {wi : TI} {src : Env → M (List D)} {g : TG} {tgt : D → Env → Option Env} {tt : TT} {ft : Env → M Bool} {te : TE} {fe : Env → M D} {vs : List Nat} (hi : Snd K mg W (rI K) wi src) (hg : SndG K mg g tgt ns) (hns : ∀ j ∈ ns, j ∈ vs) (ht : Snd K mg W.quiet rT tt ft) (he : Snd K mg W.quiet (rE K) te fe)
    : Snd K mg W (rF K) (tLc wi g tt te vs) (eLc vs src tgt ft fe) := fun B σ δ H S μ A Q s p =>
  hi B σ δ H S μ A _ s (EPost.bind up_F s.h0 p fun ds A1 J H1 S1 μ1 n1 it p1 => by
    have s1 := (s.step n1).wipe vs
    intro L hL
    refine ⟨fun i m H2 => m = ds.length - i ∧ i ≤ ds.length ∧ ∃ acc accV S2 μ2 A2, H2 L = some (.lst accV) ∧ RpA K S2 μ2 accV acc ∧ S2 L = none ∧ L ∉ μ2 ∧ Nxt K mg H1 S1 μ1 A2 H2 S2 μ2 ∧
      EPost K mg H1 S1 μ1 W σ (rF K) Q (lcN tgt ft fe (wipeE δ vs) (ds.drop i) acc A2), ⟨ds.length, rfl, Nat.zero_le _, [], [], S1, μ1, A1, upd_same, .nil, n1.wd.freeS hL, fun z => n1.wd.there z hL, Nxt.own n1.wd hL, p1⟩, ?_⟩
    rintro i m H2 ⟨rfl, hi, acc, accV, S2, μ2, A2, h1, h2, h3, h4, n2, p2⟩
    by_cases hlt : i < ds.length
    · have hd : ds[i]? = some ds[i] := List.getElem?_eq_getElem hlt
      have s2 := s1.step n2
      obtain ⟨em, hem, _⟩ := n2.mu
      rw [List.drop_eq_getElem_cons hlt] at p2
      refine .inr ⟨(it.step i _ H2 S2 hd n2.sub s2.wd.sub).1, fun H' => (i + 1 ≤ ds.length ∧ ∃ acc accV S2 μ2 A2, H' L = some (.lst accV) ∧ RpA K S2 μ2 accV acc ∧ S2 L = none ∧ L ∉ μ2 ∧ Nxt K mg H1 S1 μ1 A2 H' S2 μ2 ∧
        EPost K mg H1 S1 μ1 W σ (rF K) Q (lcN tgt ft fe (wipeE δ vs) (ds.drop (i + 1)) acc A2)), fun H' hN => ⟨_, by omega, rfl, hN⟩, fun x H3 hy => ?_⟩
      subst hem
      obtain ⟨S3, g3, s3, r3, n3⟩ := it.yields hd s2 n2.sub hy
      have n23 := n2.trans n1.wd.h0 n3
      have hLn : H2 L ≠ none := by rw [h1]; exact fun z => nomatch z
      have q1 : H3 L = some (.lst accV) := n3.fr L _ h1 h4
      have q3 : S3 L = none := n3.nw L hLn h3
      unfold lcN at p2
      cases ht1 : tgt ds[i] (wipeE δ vs) with
      | none => rw [ht1] at p2; exact p2.elim
      | some δ1 =>
        rw [ht1] at p2
        dsimp only at p2
        refine hg W B _ _ H3 S3 _ A2 x _ δ1 _ s3 r3 ht1 fun σ2 s4 f4 l4 => ⟨(wipe_same (fun j hj => f4 j fun z => hj (hns j z)) l4).trans wipe_wipe, ?_⟩
        refine ht B σ2 δ1 H3 S3 _ A2 _ s4 ?_
        cases e1 : ft δ1 A2 with
        | un => rw [e1] at p2; exact p2.elim
        | ex ee AA => rw [e1] at p2; exact p2.elim
        | ok b A3 =>
          rw [e1] at p2
          intro b' H4 S4 μ4 n4 hb
          cases hb
          have n24 := n23.trans n1.wd.h0 n4
          have hLn3 : H3 L ≠ none := by rw [q1]; exact fun z => nomatch z
          have k1 : H4 L = some (.lst accV) := n4.fr L _ q1 h4
          have k3 : S4 L = none := n4.nw L hLn3 q3
          have k4 : L ∉ μ4 := n4.notMu hLn3 h4
          cases b with
          | false =>
            simp only [R.noex_ok, R.bind_ok, Bool.false_eq_true, if_false] at p2 ⊢
            exact ⟨hlt, acc, accV, S4, μ4, A3, k1, n4.rpA (n3.rpA h2), k3, k4, n24, p2⟩
          | true =>
            simp only [R.noex_ok, R.bind_ok, if_true] at p2 ⊢
            refine he B σ2 δ1 H4 S4 μ4 A3 _ (s4.step n4) ?_
            cases e2 : fe δ1 A3 with
            | un => rw [e2] at p2; exact p2.elim
            | ex ee AA => rw [e2] at p2; exact p2.elim
            | ok y A4 =>
              rw [e2] at p2
              intro v H5 S5 μ5 n5 rv
              simp only [R.noex_ok, R.bind_ok] at p2
              by_cases hz : szOk (acc.length + 1) = true
              · rw [if_pos hz] at p2
                have hLn4 : H4 L ≠ none := by rw [k1]; exact fun z => nomatch z
                have j1 : H5 L = some (.lst accV) := n5.fr L _ k1 k4
                have j3 : S5 L = none := n5.nw L hLn4 k3
                have j4 : L ∉ μ5 := n5.notMu hLn4 k4
                have ra := n5.rpA (n4.rpA (n3.rpA h2))
                refine ⟨accV, j1, by rw [ra.length]; exact szOk_lt hz, hlt, acc ++ [y], accV ++ [v], S5, μ5, A4, upd_same, ra.append (.one rv), j3, j4, (n24.trans n1.wd.h0 n5).ownUpd hL j3 j4, p2⟩
              · rw [if_neg hz] at p2; exact p2.elim
    · have e : i = ds.length := by omega
      subst e
      rw [List.drop_length] at p2
      exact .inl ⟨it.stop _ H2 S2 (Nat.le_refl _) n2.sub n2.wd.sub, p2 (.ref L) H2 S2 μ2 n2 ⟨L, accV, rfl, hL, h1, h3, h4, h2⟩⟩)
theorem pu_lcF {elt tg iter : Expr} {ifs : List Expr} {scope : Scope} {own : List (Str × Nat)} {pos : Pos} {wi : TI} {src : Env → M (List D)} {g : TG} {tgt : D → Env → Option Env} {tt : TT} {ft : Env → M Bool} {te : TE} {fe : Env → M D}
    (hc : X.calm = true) (hN : X.N.Nodup) (hi : PuI X W tg iter wi src) (ok : BlkOk X.N X.env.scope scope own)
    (hg : ∀ (s : Shared) (H : Hp) (C : Addr) (cl : List (Str × Addr)) (fp : List Addr), PuG (X.blk s H scope (compEnvC scope cl C X.env) fp) tg g tgt ns) (hns : ∀ j ∈ ns, j ∈ own.map (·.2))
    (ht : ∀ (s : Shared) (H : Hp) (C : Addr) (cl : List (Str × Addr)) (fp : List Addr), PuTs (X.blk s H scope (compEnvC scope cl C X.env) fp) W.quiet ifs tt ft)
    (he : ∀ (s : Shared) (H : Hp) (C : Addr) (cl : List (Str × Addr)) (fp : List Addr), PuE (X.blk s H scope (compEnvC scope cl C X.env) fp) W.quiet elt te fe) (s0 : Shared) (hs : ∀ x, foldedSetIterable iter X.env x = pure x := by intro _; rfl) :
    PuF X W (.ListComp elt [⟨tg, iter, ifs, 0⟩] scope pos) (tLc wi g tt te (own.map (·.2))) (eLc (own.map (·.2)) src tgt ft fe) :=
  ⟨pe_lc hc hN hi.der ok (fun s H C cl fp => (hg s H C cl fp).der) (fun s H C cl fp => (ht s H C cl fp).der) (fun s H C cl fp => (he s H C cl fp).der) hs,
    snd_lc hi.snd (hg s0 (fun _ => none) 0 [] []).snd hns (ht s0 (fun _ => none) 0 [] []).snd (he s0 (fun _ => none) 0 [] []).snd⟩
end
end Pv

noncomputable section
namespace Pv
open PySem PySem.Spec L2
open PyProof.Rows hiding St

/-! ### statements -/
def Grow (S : Hp) (μ : List Addr) (S' : Hp) (μ' : List Addr) : Prop := Same S S' ∧ ∃ e, μ' = μ ++ e
theorem Grow.refl (S : Hp) (μ : List Addr) : Grow S μ S μ := ⟨Same.refl _, [], (List.append_nil _).symm⟩
theorem Grow.trans {S S1 S2 : Hp} {μ μ1 μ2 : List Addr} (a : Grow S μ S1 μ1) (b : Grow S1 μ1 S2 μ2) : Grow S μ S2 μ2 := by
  obtain ⟨e1, h1⟩ := a.2
  obtain ⟨e2, h2⟩ := b.2
  exact ⟨a.1.trans b.1, e1 ++ e2, by rw [h2, h1, List.append_assoc]⟩
theorem Nxt.grow {K : PySem.W.Frag} {mg : Str → Option Value} {H S H' S' : Hp} {μ μ' : List Addr} {A' : AS} (n : Nxt K mg H S μ A' H' S' μ') : Grow S μ S' μ' := by
  obtain ⟨e, he, _⟩ := n.mu
  exact ⟨n.sub, e, he⟩
def SPost (K : PySem.W.Frag) (mg : Str → Option Value) (B : Base) (S : Hp) (μ : List Addr) (W : WW) (Dn : Ends) : SR → Prop
  | .un => False
  | .nx δ' A' => ∀ σ' H' S' μ', Grow S μ S' μ' → StR W.xs K mg B σ' δ' H' S' μ' A' → Dn.nx σ' H'
  | .bk δ' A' => ∀ σ' H' S' μ', Grow S μ S' μ' → StR W.xs K mg B σ' δ' H' S' μ' A' → Dn.bk σ' H'
  | .ct δ' A' => ∀ σ' H' S' μ', Grow S μ S' μ' → StR W.xs K mg B σ' δ' H' S' μ' A' → Dn.ct σ' H'
  | .rt d A' => ∀ v H' S' μ', Nxt K mg B.H B.S B.mu A' H' S' μ' → Rp K S' μ' v d → Dn.rt v H'
  | .ex e δ' A' => ∀ C dx σ' H' S' μ', Grow S μ S' μ' → StR W.xs K mg B σ' δ' H' S' μ' A' → ERep K mg S' μ' H' e C dx → W.w (.ref C) (some dx) σ' H'
def SndS (K : PySem.W.Frag) (mg : Str → Option Value) (W : WW) (t : TS) (g : Env → AS → SR) : Prop :=
  ∀ B σ δ H S μ A Dn, StR W.xs K mg B σ δ H S μ A → SPost K mg B S μ W Dn (g δ A) → t Dn σ H
structure PuS (X : Cx) (W : WW) (st : Stmt) (t : TS) (g : Env → AS → SR) : Prop where
  der : PS X st t
  snd : SndS X.K X.mg W t g
structure PuSs (X : Cx) (W : WW) (st : List Stmt) (t : TS) (g : Env → AS → SR) : Prop where
  der : PSs X st t
  snd : SndS X.K X.mg W t g
/-- an expression ahead -/
def onE {α : Type} (r : R α) (δ : Env) (k : α → AS → SR) : SR := match r with
  | .un => .un
  | .ok a A => k a A
  | .ex e A => .ex e δ A
@[simp] theorem onE_ok {α : Type} (a : α) (A : AS) (δ : Env) (k : α → AS → SR) : onE (R.ok a A) δ k = k a A := (rfl)
@[simp] theorem onE_un {α : Type} (δ : Env) (k : α → AS → SR) : onE (R.un : R α) δ k = .un := (rfl)
@[simp] theorem onE_ex {α : Type} (e : Exc) (A : AS) (δ : Env) (k : α → AS → SR) : onE (R.ex e A : R α) δ k = .ex e δ A := (rfl)
section
variable {K : PySem.W.Frag} {mg : Str → Option Value} {B : Base} {σ : L2.St} {δ : Env} {H S H' S' S1 : Hp} {μ μ' μ1 : List Addr} {A A' A1 : AS} {W : WW} {Dn : Ends}
theorem SPost.grow {r : SR} (g : Grow S μ S1 μ1) (h : SPost K mg B S μ W Dn r) : SPost K mg B S1 μ1 W Dn r := by
  cases r with
  | un => exact h
  | nx δ' A' => exact fun σ' H' S' μ' q => h σ' H' S' μ' (g.trans q)
  | bk δ' A' => exact fun σ' H' S' μ' q => h σ' H' S' μ' (g.trans q)
  | ct δ' A' => exact fun σ' H' S' μ' q => h σ' H' S' μ' (g.trans q)
  | rt d A' => exact h
  | ex e δ' A' => exact fun C dx σ' H' S' μ' q => h C dx σ' H' S' μ' (g.trans q)
theorem SPost.onE {α β : Type} {rel : Rel β α} {r : R α} {k : α → AS → SR} {Q : β → Hp → Prop} (s : StR W.xs K mg B σ δ H S μ A) (h : SPost K mg B S μ W Dn (onE r δ k))
    (hk : ∀ a A1 b H1 S1 μ1, Nxt K mg H S μ A1 H1 S1 μ1 → rel H H1 S1 μ1 b a → StR W.xs K mg B σ δ H1 S1 μ1 A1 → SPost K mg B S1 μ1 W Dn (k a A1) → Q b H1) : EPost K mg H S μ W σ rel Q r := by
  cases r with
  | un => exact h
  | ok a A1 => exact fun b H1 S1 μ1 n z => hk a A1 b H1 S1 μ1 n z (s.step n) (SPost.grow n.grow h)
  | ex e A1 => exact fun C dx H1 S1 μ1 n z => h C dx σ H1 S1 μ1 n.grow (s.step n) z
variable {X : Cx} {pos : Pos} {e : Expr} {te : TE} {f : Env → M D} {st : Stmt} {rest : List Stmt} {t u : TS} {g h : Env → AS → SR}
/-! blocks -/
def sNx : Env → AS → SR := fun δ A => .nx δ A
def sSeq (g h : Env → AS → SR) : Env → AS → SR := fun δ A => match g δ A with
  | .nx δ' A' => h δ' A'
  | r => r
theorem puss_nil : PuSs X W [] tNext sNx := ⟨pss_nil, fun B σ δ H S μ A Dn s p => p σ H S μ (Grow.refl _ _) s⟩
theorem snd_seq (h1 : SndS K mg W t g) (h2 : SndS K mg W u h) : SndS K mg W (tSeq t u) (sSeq g h) := fun B σ δ H S μ A Dn s p => h1 B σ δ H S μ A _ s (by
  unfold sSeq at p
  generalize g δ A = r at p
  cases r with
  | nx δ' A' => exact fun σ' H' S' μ' q s' => h2 B σ' δ' H' S' μ' A' Dn s' (SPost.grow q p)
  | un => exact p
  | bk δ' A' => exact p
  | ct δ' A' => exact p
  | rt d A' => exact p
  | ex e δ' A' => exact p)
theorem puss_cons (h1 : PuS X W st t g) (h2 : PuSs X W rest u h) : PuSs X W (st :: rest) (tSeq t u) (sSeq g h) := ⟨pss_cons h1.der h2.der, snd_seq h1.snd h2.snd⟩
theorem puss_one (h1 : PuS X W st t g) : PuSs X W [st] t g := ⟨pss_one h1.der, h1.snd⟩
/-- own lists, own dicts become values -/
def frz (i : Nat) (δ : Env) : Env := match sget δ i with
  | .ow xs => sset δ i (.sh (.lst xs))
  | .od kvs => sset δ i (.sh (.dic kvs))
  | _ => δ
theorem StR.frz (i : Nat) (s : StR W.xs K mg B σ δ H S μ A) : ∃ S1, Same S S1 ∧ StR W.xs K mg B σ (Pv.frz i δ) H S1 μ A := by
  have share : ∀ {p : Addr} {o : HO} {x : Sl}, σ[i]? = some (some (.ref p)) → isOwn (sget δ i) = true → H p = some o → S p = none → p ∉ μ → isOwn x = false → SlotR W.xs K mg (upd S p o) μ H x (some (some (.ref p))) →
      Same S (upd S p o) ∧ StR W.xs K mg B σ (sset δ i x) H (upd S p o) μ A := fun {p o x} e1 ho h1 h2 h3 hx hsl => by
    have sm : Same S (upd S p o) := same_upd h2
    have hb : B.H p = none := s.fr i p ⟨ho, e1⟩
    have oth : ∀ j q, j ≠ i → OwnAt δ σ j q → q ≠ p := fun j q hj hq e => hj (s.ap j i q hq ⟨ho, by rw [e]; exact e1⟩)
    have own : ∀ j q, OwnAt (sset δ i x) σ j q → j ≠ i ∧ OwnAt δ σ j q := fun j q ⟨k1, k2⟩ => by
      by_cases e : j = i
      · subst e
        by_cases hi : j < δ.length
        · rw [sget_sset_same hi, hx] at k1; cases k1
        · rw [sget_out (by rw [sset_length]; exact Nat.le_of_not_lt hi)] at k1; cases k1
      · rw [sget_sset_ne (Ne.symm e)] at k1
        exact ⟨e, k1, k2⟩
    have nx' : Nxt K mg B.H B.S B.mu A H (upd S p o) μ := ⟨s.wd.share h1 h2 h3, s.nx.sub.trans sm, s.nx.mu, s.nx.fr, fun a k1 k2 => by
      rw [upd_ne (fun z : a = p => k1 (by rw [z]; exact hb))]
      exact s.nx.nw a k1 k2⟩
    refine ⟨sm, ⟨nx', s.b0, by rw [sset_length]; exact s.len, fun j => ?_, fun j q hq => s.fr j q (own j q hq).2, fun j k q hj hk => s.ap j k q (own j q hj).2 (own k q hk).2⟩⟩
    by_cases e : i = j
    · subst e
      by_cases hi : i < δ.length
      · rw [sget_sset_same hi, e1]; exact hsl
      · rw [sget_out (by rw [sset_length]; exact Nat.le_of_not_lt hi)]; trivial
    · rw [sget_sset_ne e]
      have z := s.sl j
      have oz : ∀ q, OwnAt δ σ j q → q ≠ p := fun q => oth j q (Ne.symm e)
      revert oz
      unfold OwnAt
      generalize sget δ j = y at z
      intro oz
      cases y with
      | un => trivial
      | sh d => obtain ⟨v, ev, r⟩ := z; exact ⟨v, ev, r.sub sm⟩
      | ow xs =>
        obtain ⟨q, vs, ev, k1, k2, k3, r⟩ := z
        exact ⟨q, vs, ev, k1, by rw [upd_ne (oz q ⟨rfl, ev⟩)]; exact k2, k3, r.sub sm⟩
      | od xs =>
        obtain ⟨q, vs, ev, k1, k2, k3, r⟩ := z
        exact ⟨q, vs, ev, k1, by rw [upd_ne (oz q ⟨rfl, ev⟩)]; exact k2, k3, r.sub sm⟩
      | xc e => obtain ⟨a, dx, fs, v, e1, h1, h2, h3, h4, r⟩ := z; exact ⟨a, dx, fs, v, e1, h1, h2, h3, h4, r.sub sm⟩
  have z := s.sl i
  unfold Pv.frz
  cases hy : sget δ i with
  | ow xs =>
    rw [hy] at z
    obtain ⟨p, vs, e1, h1, h2, h3, r⟩ := z
    obtain ⟨k1, k2⟩ := share (x := .sh (.lst xs)) e1 (by rw [hy]; rfl) h1 h2 h3 rfl ⟨_, rfl, .lst upd_same (r.sub (same_upd h2))⟩
    exact ⟨_, k1, k2⟩
  | od kvs =>
    rw [hy] at z
    obtain ⟨p, vs, e1, h1, h2, h3, r⟩ := z
    obtain ⟨o, ho, hd⟩ : ∃ o, H p = some o ∧ DAt (upd S p o) p vs := by
      cases h1 with
      | k h => exact ⟨_, h, .k upd_same⟩
      | t h => exact ⟨_, h, .t upd_same⟩
    obtain ⟨k1, k2⟩ := share (x := .sh (.dic kvs)) e1 (by rw [hy]; rfl) ho h2 h3 rfl ⟨_, rfl, .dic hd (r.sub (same_upd h2))⟩
    exact ⟨_, k1, k2⟩
  | un => exact ⟨S, Same.refl _, s⟩
  | sh d => exact ⟨S, Same.refl _, s⟩
  | xc e => exact ⟨S, Same.refl _, s⟩
def sFrz (i : Nat) (g : Env → AS → SR) : Env → AS → SR := fun δ A => g (frz i δ) A
theorem snd_frz (i : Nat) (h : SndS K mg W t g) : SndS K mg W t (sFrz i g) := fun B σ δ H S μ A Dn s p => by
  obtain ⟨S1, k1, k2⟩ := s.frz i
  exact h B σ (frz i δ) H S1 μ A Dn k2 (SPost.grow ⟨k1, [], (List.append_nil _).symm⟩ p)
theorem PuS.frz (i : Nat) (h : PuS X W st t g) : PuS X W st t (sFrz i g) := ⟨h.der, snd_frz i h.snd⟩
/-! small statements -/
theorem pus_pass : PuS X W (.Pass pos) tNext sNx := ⟨ps_pass, fun B σ δ H S μ A Dn s p => p σ H S μ (Grow.refl _ _) s⟩
theorem pus_doc {x j pos'} : PuS X W (.Expr (.Constant (.str x) j pos) pos') tNext sNx := ⟨ps_doc, fun B σ δ H S μ A Dn s p => p σ H S μ (Grow.refl _ _) s⟩
def sBk : Env → AS → SR := fun δ A => .bk δ A
def sCt : Env → AS → SR := fun δ A => .ct δ A
theorem pus_break : PuS X W (.Break pos) tBreak sBk := ⟨ps_break, fun B σ δ H S μ A Dn s p => p σ H S μ (Grow.refl _ _) s⟩
theorem pus_cont : PuS X W (.Continue pos) tCont sCt := ⟨ps_continue, fun B σ δ H S μ A Dn s p => p σ H S μ (Grow.refl _ _) s⟩
def sRet (f : Env → M D) : Env → AS → SR := fun δ A => onE (f δ A) δ fun d A1 => .rt d A1
theorem pus_ret (h : PuE X W e te f) : PuS X W (.Return (some e) pos) (tRet te) (sRet f) := ⟨ps_ret h.der, fun B σ δ H S μ A Dn s p =>
  h.snd B σ δ H S μ A _ s (SPost.onE s p fun d A1 v H1 S1 μ1 n r s1 q => q v H1 S1 μ1 s1.nx r)⟩
def sRetN : Env → AS → SR := fun _ A => .rt .non A
theorem pus_retN : PuS X W (.Return none pos) tRetN sRetN := ⟨ps_retN, fun B σ δ H S μ A Dn s p => p .non H S μ s.nx .non⟩
def sExp (f : Env → M D) : Env → AS → SR := fun δ A => onE (f δ A) δ fun _ A1 => .nx δ A1
theorem pus_expr (h : PuE X W e te f) (hs : swapsWith e none pos.line X.env = pure false := by rfl) : PuS X W (.Expr e pos) (tDrop te) (sExp f) := ⟨ps_expr h.der hs, fun B σ δ H S μ A Dn s p =>
  h.snd B σ δ H S μ A _ s (SPost.onE s p fun d A1 v H1 S1 μ1 n r s1 q => q σ H1 S1 μ1 (Grow.refl _ _) s1)⟩
def sIf (c : Env → M Bool) (g h : Env → AS → SR) : Env → AS → SR := fun δ A => onE (c δ A) δ fun b A1 => if b = true then g δ A1 else h δ A1
theorem pus_if {c : Expr} {a b : List Stmt} {tc : TT} {fc : Env → M Bool} (hc : PuT X W c tc fc) (ha : PuSs X W a t g) (hb : PuSs X W b u h) : PuS X W (.If c a b pos) (tIfS tc t u) (sIf fc g h) := ⟨ps_if hc.der ha.der hb.der, fun B σ δ H S μ A Dn s p =>
  hc.snd B σ δ H S μ A _ s (SPost.onE s p fun d A1 (v : Bool) H1 S1 μ1 n r s1 q => by
    cases r
    cases d with
    | true => rw [if_pos rfl] at q ⊢; exact ha.snd B σ δ H1 S1 μ1 A1 Dn s1 q
    | false => rw [if_neg Bool.false_ne_true] at q ⊢; exact hb.snd B σ δ H1 S1 μ1 A1 Dn s1 q)⟩
/-! assignments -/
def sAsg (tgt : D → Env → Option Env) (f : Env → M D) : Env → AS → SR := fun δ A => onE (f δ A) δ fun d A1 => match tgt d δ with
  | some δ' => .nx δ' A1
  | none => .un
theorem snd_asg {tg : TG} {tgt : D → Env → Option Env} {ns : List Nat} (h : Snd K mg W (rE K) te f) (hg : SndG K mg tg tgt ns) : SndS K mg W (tAsg te tg) (sAsg tgt f) := fun B σ δ H S μ A Dn s p =>
  h B σ δ H S μ A _ s (SPost.onE s p fun d A1 v H1 S1 μ1 n r s1 q => by
    cases e1 : tgt d δ with
    | none => rw [e1] at q; exact q.elim
    | some δ' =>
      rw [e1] at q
      exact hg W B σ δ H1 S1 μ1 A1 v d δ' _ s1 r e1 fun σ' s' _ _ => q σ' H1 S1 μ1 (Grow.refl _ _) s')
theorem pus_asg {tg : Expr} {gg : TG} {tgt : D → Env → Option Env} {ns : List Nat} (he : PuE X W e te f) (hg : PuG X tg gg tgt ns) (hs : swapsWithSole [tg] e pos.line X.env = pure false := by rfl) (hw : swappedStores [tg] e X.env = pure none := by rfl)
    (h1 : (assignEach [tg] X.env).map (·.2) = [assign tg X.env] := by rfl) : PuS X W (.Assign [tg] e pos) (tAsg te gg) (sAsg tgt f) := ⟨ps_asg he.der hg.der hs hw h1, snd_asg he.snd hg.snd⟩
theorem sndg_name {i : Nat} : SndG K mg (gName i) (gN i) [i] := fun W B σ δ H S μ A v d δ' Q s r h k => by
  have e : sset δ i (.sh d) = δ' := Option.some.inj h
  subst e
  exact k _ (s.setSh r) (fun j hj => set_get (fun z => hj (by rw [z]; exact List.mem_singleton.mpr rfl))) (List.length_set ..)
theorem pus_set {i : Nat} {x : Str} {pos' : Pos} (d : PS X (.Assign [.Name x pos'] e pos) (tAsg te (gName i))) (he : Snd X.K X.mg W (rE X.K) te f) : PuS X W (.Assign [.Name x pos'] e pos) (tAsg te (gName i)) (sAsg (gN i) f) := ⟨d, snd_asg he sndg_name⟩
/-- a list of one's own -/
def sOwn (i : Nat) (f : Env → M (List D)) : Env → AS → SR := fun δ A => onE (f δ A) δ fun ds A1 => .nx (sset δ i (.ow ds)) A1
theorem snd_own {i : Nat} {f : Env → M (List D)} (h : Snd K mg W (rF K) te f) : SndS K mg W (tAsg te (gName i)) (sOwn i f) := fun B σ δ H S μ A Dn s p =>
  h B σ δ H S μ A _ s (SPost.onE s p fun ds A1 v H1 S1 μ1 n r s1 q => by
    obtain ⟨a, vs, e, h1, h2, h3, h4, r⟩ := r
    subst e
    refine q _ H1 S1 μ1 (Grow.refl _ _) (s1.setOw ?_ (s.notOwn h1) h2 h3 h4 r)
    cases z : B.H a with
    | none => rfl
    | some o => exact absurd h1 (s.nx.keep s.b0 (by rw [z]; exact fun z => nomatch z)))
theorem pus_own {i : Nat} {x : Str} {pos' : Pos} {f : Env → M (List D)} (d : PS X (.Assign [.Name x pos'] e pos) (tAsg te (gName i))) (he : Snd X.K X.mg W (rF X.K) te f) : PuS X W (.Assign [.Name x pos'] e pos) (tAsg te (gName i)) (sOwn i f) := ⟨d, snd_own he⟩
/-! a, b = x, y -/
inductive As where
  | sh (f : Env → M D) | ow (f : Env → M (List D))
def parGo : List (Nat × As) → Env → Env → AS → SR
  | [], _, δ', A => .nx δ' A
  | (i, .sh f) :: r, δ, δ', A => onE (f δ A) δ fun d A1 => parGo r δ (sset δ' i (.sh d)) A1
  | (i, .ow f) :: r, δ, δ', A => onE (f δ A) δ fun d A1 => parGo r δ (sset δ' i (.ow d)) A1
/-- one part of it -/
def SndAs (K : PySem.W.Frag) (mg : Str → Option Value) (W : WW) (te : TE) : As → Prop
  | .sh f => Snd K mg W (rE K) te f
  | .ow f => Snd K mg W (rF K) te f
def asE : As → Env → M Sl
  | .sh f => fun δ A => (f δ A).bind fun d A1 => .ok (.sh d) A1
  | .ow f => fun δ A => (f δ A).bind fun d A1 => .ok (.ow d) A1
/-- the slot's content by its value -/
abbrev rS (xs : Addr → Addr → Prop) (K : PySem.W.Frag) (mg : Str → Option Value) : Rel V Sl := fun H H' S' μ' v x => SlotR xs K mg S' μ' H' x (some (some v)) ∧ (isOwn x = true → ∀ p, v = .ref p → H p = none) ∧ (match x with | .sh _ => True | .ow _ => True | _ => False)
theorem up_S : Up (rS W.xs K mg) := fun _ _ _ _ _ _ _ f h => ⟨h.1, fun h1 p h2 => f p (h.2.1 h1 p h2), h.2.2⟩
theorem snd_as {te : TE} {a : As} (h : SndAs K mg W te a) : Snd K mg W (rS W.xs K mg) te (asE a) := by
  cases a with
  | sh f =>
    intro B σ δ H S μ A Q s p
    exact h B σ δ H S μ A _ s (EPost.bind up_S s.h0 p fun d A1 v H1 S1 μ1 n r q => q v H1 S1 μ1 (Nxt.refl n.wd) ⟨⟨v, rfl, r⟩, (fun h => nomatch h), trivial⟩)
  | ow f =>
    intro B σ δ H S μ A Q s p
    refine h B σ δ H S μ A _ s ?_
    unfold asE at p
    dsimp only at p
    cases e1 : f δ A with
    | un => rw [e1] at p; exact p
    | ex e AA => rw [e1] at p; exact p
    | ok d A1 =>
      rw [e1] at p
      intro v H1 S1 μ1 n r
      obtain ⟨a, vs, e, h1, h2, h3, h4, r⟩ := r
      subst e
      exact p _ H1 S1 μ1 n ⟨⟨a, vs, rfl, h2, h3, h4, r⟩, fun _ p hp => by cases hp; exact h1, trivial⟩
theorem StR.setS {i : Nat} {v : V} {x : Sl} {H0 S0 : Hp} {μ0 : List Addr} {A0 : AS} (s0 : StR W.xs K mg B σ δ H0 S0 μ0 A0) (s : StR W.xs K mg B σ δ H S μ A) (r : rS W.xs K mg H0 H S μ v x) : StR W.xs K mg B (σ.set i (some v)) (sset δ i x) H S μ A :=
  s.setAny r.1 fun p h1 h2 => by
    have h3 := r.2.1 h1 p (Option.some.inj h2)
    refine ⟨?_, fun j hj => absurd hj (s0.notOwn h3 j)⟩
    cases z : B.H p with
    | none => rfl
    | some o => exact absurd h3 (s0.nx.keep s0.b0 (by rw [z]; exact fun z => nomatch z))
def sPar (a b : As) (i j : Nat) : Env → AS → SR := fun δ A => onE (asE a δ A) δ fun x A1 => onE (asE b δ A1) δ fun y A2 => .nx (sset (sset δ i x) j y) A2
theorem rS_nxt {H0 : Hp} {v : V} {x : Sl} (n : Nxt K mg H S μ A' H' S' μ') (r : rS W.xs K mg H0 H S μ v x) : rS W.xs K mg H0 H' S' μ' v x := ⟨r.1.nxt n, r.2.1, r.2.2⟩
theorem rS_addr {H0 : Hp} {p : Addr} {x : Sl} (h : isOwn x = true) (r : rS W.xs K mg H0 H S μ (.ref p) x) : H p ≠ none := by
  obtain ⟨r, _, _⟩ := r
  cases x with
  | ow xs =>
    obtain ⟨q, vs, e, h1, _⟩ := r
    cases e
    rw [h1]; exact fun z => nomatch z
  | od xs =>
    obtain ⟨q, vs, e, h1, _⟩ := r
    cases e
    exact h1.some
  | _ => cases h
theorem isOwn_ref {H0 : Hp} {v : V} {x : Sl} (h : isOwn x = true) (r : rS W.xs K mg H0 H S μ v x) : ∃ p, v = .ref p := by
  obtain ⟨r, _, _⟩ := r
  cases x with
  | ow xs => obtain ⟨q, vs, e, h1, _⟩ := r; cases e; exact ⟨_, rfl⟩
  | od xs => obtain ⟨q, vs, e, h1, _⟩ := r; cases e; exact ⟨_, rfl⟩
  | _ => cases h
theorem StR.setS2 {i : Nat} {v : V} {x : Sl} {H0 : Hp} (s : StR W.xs K mg B σ δ H S μ A) (r : rS W.xs K mg H0 H S μ v x) (hb : isOwn x = true → ∀ p, v = .ref p → B.H p = none) (hn : isOwn x = true → ∀ p, v = .ref p → ∀ j, ¬ OwnAt δ σ j p) : StR W.xs K mg B (σ.set i (some v)) (sset δ i x) H S μ A :=
  s.setAny r.1 fun p h1 h2 => ⟨hb h1 p (Option.some.inj h2), fun j hj => absurd hj (hn h1 p (Option.some.inj h2) j)⟩
theorem base_free (s : StR W.xs K mg B σ δ H S μ A) {p : Addr} (h : H p = none) : B.H p = none := by
  cases z : B.H p with
  | none => rfl
  | some o => exact absurd h (s.nx.keep s.b0 (by rw [z]; exact fun z => nomatch z))
theorem ownAt_set {i j : Nat} {v : V} {x : Sl} {p : Addr} (h : OwnAt (sset δ i x) (σ.set i (some v)) j p) : OwnAt δ σ j p ∨ (isOwn x = true ∧ v = .ref p) := by
  obtain ⟨h1, h2⟩ := h
  by_cases e : i = j
  · subst e
    by_cases hi : i < δ.length
    · rw [sget_sset_same hi] at h1
      by_cases hs : i < σ.length
      · rw [List.getElem?_set_self hs] at h2
        exact .inr ⟨h1, Option.some.inj (Option.some.inj h2)⟩
      · rw [List.getElem?_eq_none (by rw [List.length_set]; exact Nat.le_of_not_lt hs)] at h2; cases h2
    · rw [sget_out (by rw [sset_length]; exact Nat.le_of_not_lt hi)] at h1; cases h1
  · rw [sget_sset_ne e] at h1
    rw [set_get e] at h2
    exact .inl ⟨h1, h2⟩
theorem snd_par {ta tb : TE} {a b : As} {i j : Nat} (ha : SndAs K mg W ta a) (hb : SndAs K mg W tb b) : SndS K mg W (tPar i j (tCons ta (tCons tb tNil))) (sPar a b i j) := fun B σ δ H S μ A Dn s p =>
  snd_as ha B σ δ H S μ A _ s (SPost.onE s p fun x A1 v H1 S1 μ1 n1 r1 s1 q1 =>
    snd_as hb B σ δ H1 S1 μ1 A1 _ s1 (SPost.onE s1 q1 fun y A2 w H2 S2 μ2 n2 r2 s2 q2 => by
      refine ⟨v, w, rfl, q2 _ H2 S2 μ2 (Grow.refl _ _) ?_⟩
      have s3 := StR.setS2 (i := i) s2 (rS_nxt n2 r1) (fun h p e => base_free s (r1.2.1 h p e)) fun h p e j hj => s.notOwn (r1.2.1 h p e) j hj
      refine StR.setS2 (i := j) s3 r2 (fun h p e => base_free s1 (r2.2.1 h p e)) fun h p e k hk => ?_
      rcases ownAt_set hk with hk | ⟨h1, e1⟩
      · exact s1.notOwn (r2.2.1 h p e) k hk
      · subst e1
        exact rS_addr h1 r1 (r2.2.1 h p e)))
def sPar3 (a b c : As) (i j k : Nat) : Env → AS → SR := fun δ A => onE (asE a δ A) δ fun x A1 => onE (asE b δ A1) δ fun y A2 => onE (asE c δ A2) δ fun z A3 => .nx (sset (sset (sset δ i x) j y) k z) A3
theorem snd_par3 {ta tb tc : TE} {a b c : As} {i j l : Nat} (ha : SndAs K mg W ta a) (hb : SndAs K mg W tb b) (hc : SndAs K mg W tc c) : SndS K mg W (tPar3 i j l (tCons ta (tCons tb (tCons tc tNil)))) (sPar3 a b c i j l) := fun B σ δ H S μ A Dn s p =>
  snd_as ha B σ δ H S μ A _ s (SPost.onE s p fun x A1 v H1 S1 μ1 n1 r1 s1 q1 =>
    snd_as hb B σ δ H1 S1 μ1 A1 _ s1 (SPost.onE s1 q1 fun y A2 w H2 S2 μ2 n2 r2 s2 q2 =>
      snd_as hc B σ δ H2 S2 μ2 A2 _ s2 (SPost.onE s2 q2 fun z A3 w' H3 S3 μ3 n3 r3 s3 q3 => by
        refine ⟨v, w, w', rfl, q3 _ H3 S3 μ3 (Grow.refl _ _) ?_⟩
        have s4 := StR.setS2 (i := i) s3 (rS_nxt n3 (rS_nxt n2 r1)) (fun h p e => base_free s (r1.2.1 h p e)) fun h p e j hj => s.notOwn (r1.2.1 h p e) j hj
        have s5 := StR.setS2 (i := j) s4 (rS_nxt n3 r2) (fun h p e => base_free s1 (r2.2.1 h p e)) fun h p e k hk => by
          rcases ownAt_set hk with hk | ⟨h1, e1⟩
          · exact s1.notOwn (r2.2.1 h p e) k hk
          · subst e1
            exact rS_addr h1 r1 (r2.2.1 h p e)
        refine StR.setS2 (i := l) s5 r3 (fun h p e => base_free s2 (r3.2.1 h p e)) fun h p e k hk => ?_
        rcases ownAt_set hk with hk | ⟨h1, e1⟩
        · rcases ownAt_set hk with hk | ⟨h1, e1⟩
          · exact s2.notOwn (r3.2.1 h p e) k hk
          · subst e1
            exact rS_addr h1 (rS_nxt n2 r1) (r3.2.1 h p e)
        · subst e1
          exact rS_addr h1 r2 (r3.2.1 h p e))))
/-! x op= e -/
def sAug (i : Nat) (h : D → D → M D) (f : Env → M D) : Env → AS → SR := fun δ A => match sget δ i with
  | .sh d => onE ((f δ A).bind fun y A1 => h d y A1) δ fun z A2 => .nx (sset δ i (.sh z)) A2
  | _ => .un
theorem snd_aug {i : Nat} {r : R2} {h : D → D → M D} (hr : SndR2 K mg r h) (hf : Snd K mg W (rB K) te f) : SndS K mg W (tAug i te r) (sAug i h f) := fun B σ δ H S μ A Dn s p => by
  unfold sAug at p
  have z := s.sl i
  cases hy : sget δ i with
  | sh d =>
    rw [hy] at p z
    obtain ⟨v, e1, rv⟩ := z
    have q := SPost.onE (rel := rE K) (Q := fun z H2 => Dn.nx (σ.set i (some z)) H2) s p fun z A2 v H2 S2 μ2 n r s2 q => q _ H2 S2 μ2 (Grow.refl _ _) (s2.setSh r)
    exact ⟨v, e1, hf B σ δ H S μ A _ s (EPost.bind up_E s.h0 q fun y A1 w H1 S1 μ1 n1 r1 p1 => hr W σ H1 S1 μ1 A1 v w d y _ n1.wd (.rp (n1.rp rv)) r1 p1)⟩
  | _ => rw [hy] at p; exact p.elim
theorem pus_aug {i : Nat} {x : Str} {op : Operator} {r : R2} {h : D → D → M D} {pos' : Pos} (d : PS X (.AugAssign (.Name x pos') op e pos) (tAug i te r)) (hr : SndR2 X.K X.mg r h) (he : PuB X W e te f) : PuS X W (.AugAssign (.Name x pos') op e pos) (tAug i te r) (sAug i h f) := ⟨d, snd_aug hr he.snd⟩
/-! loops -/
def forL (tgt : D → Env → Option Env) (body : Env → AS → SR) : List D → Env → AS → SR
  | [], δ, A => .nx δ A
  | d :: r, δ, A => match tgt d δ with
    | none => .un
    | some δ1 => match body δ1 A with
      | .nx δ2 A2 => forL tgt body r δ2 A2
      | .ct δ2 A2 => forL tgt body r δ2 A2
      | .bk δ2 A2 => .nx δ2 A2
      | q => q
def sFor (src : Env → M (List D)) (tgt : D → Env → Option Env) (body : Env → AS → SR) : Env → AS → SR := fun δ A => onE (src δ A) δ fun ds A1 => forL tgt body ds δ A1
theorem snd_for {wi : TI} {src : Env → M (List D)} {tg : TG} {tgt : D → Env → Option Env} {ns : List Nat} {tb : TS} {body : Env → AS → SR} (hi : Snd K mg W (rI K) wi src) (hg : SndG K mg tg tgt ns) (hb : SndS K mg W tb body) : SndS K mg W (tFor wi tg tb) (sFor src tgt body) := fun B σ δ H S μ A Dn s p =>
  hi B σ δ H S μ A _ s (SPost.onE s p fun ds A1 J H1 S1 μ1 n1 it s1 q1 => by
    refine ⟨fun i m σ2 H2 => m = ds.length - i ∧ i ≤ ds.length ∧ ∃ δ2 S2 μ2 A2, Grow S1 μ1 S2 μ2 ∧ StR W.xs K mg B σ2 δ2 H2 S2 μ2 A2 ∧ SPost K mg B S2 μ2 W Dn (forL tgt body (ds.drop i) δ2 A2), ⟨_, rfl, Nat.zero_le _, δ, S1, μ1, A1, Grow.refl _ _, s1, q1⟩, ?_⟩
    rintro i m σ2 H2 ⟨rfl, hi, δ2, S2, μ2, A2, g2, s2, p2⟩
    by_cases hlt : i < ds.length
    · have hd : ds[i]? = some ds[i] := List.getElem?_eq_getElem hlt
      rw [List.drop_eq_getElem_cons hlt] at p2
      refine .inr ⟨(it.step i _ H2 S2 hd g2.1 s2.wd.sub).1, fun σ3 H3 => i + 1 ≤ ds.length ∧ ∃ δ3 S3 μ3 A3, Grow S1 μ1 S3 μ3 ∧ StR W.xs K mg B σ3 δ3 H3 S3 μ3 A3 ∧ SPost K mg B S3 μ3 W Dn (forL tgt body (ds.drop (i + 1)) δ3 A3),
        fun σ' H' hN => ⟨_, by omega, rfl, hN⟩, fun x H3 hy => ?_⟩
      obtain ⟨em, hem⟩ := g2.2
      subst hem
      obtain ⟨S3, g3, s3, r3, n3⟩ := it.yields hd s2 g2.1 hy
      unfold forL at p2
      cases ht1 : tgt ds[i] δ2 with
      | none => rw [ht1] at p2; exact p2.elim
      | some δ1 =>
        rw [ht1] at p2
        dsimp only at p2
        refine hg W B _ _ H3 S3 _ A2 x _ δ1 _ s3 r3 ht1 fun σ4 s4 _ _ => hb B σ4 δ1 H3 S3 _ A2 _ s4 ?_
        have g13 : Grow S1 μ1 S3 (μ1 ++ em) := g2.trans ⟨g3, [], (List.append_nil _).symm⟩
        have p3 := SPost.grow (S1 := S3) (μ1 := μ1 ++ em) ⟨g3, [], (List.append_nil _).symm⟩ p2
        cases eb : body δ1 A2 with
        | un => rw [eb] at p3; exact p3
        | nx δ5 A5 => rw [eb] at p3; exact fun σ5 H5 S5 μ5 g5 s5 => ⟨hlt, δ5, S5, μ5, A5, g13.trans g5, s5, SPost.grow g5 p3⟩
        | ct δ5 A5 => rw [eb] at p3; exact fun σ5 H5 S5 μ5 g5 s5 => ⟨hlt, δ5, S5, μ5, A5, g13.trans g5, s5, SPost.grow g5 p3⟩
        | bk δ5 A5 => rw [eb] at p3; exact p3
        | rt d5 A5 => rw [eb] at p3; exact p3
        | ex e5 δ5 A5 => rw [eb] at p3; exact p3
    · have e : i = ds.length := by omega
      subst e
      rw [List.drop_length] at p2
      exact .inl ⟨it.stop _ H2 S2 (Nat.le_refl _) g2.1 s2.wd.sub, p2 σ2 H2 S2 μ2 (Grow.refl _ _) s2⟩)
theorem pus_for {iter tg : Expr} {body : List Stmt} {wi : TI} {src : Env → M (List D)} {gg : TG} {tgt : D → Env → Option Env} {ns : List Nat} {tb : TS} {gb : Env → AS → SR} (hp : PassesOwn (model X.prog X.w) X.A X.env X.xe) (hc : X.calm = true) (hi : PuI X W tg iter wi src) (hg : PuG X tg gg tgt ns) (hb : PuSs X W body tb gb)
    (hs : ∀ x, foldedSetIterable iter X.env x = pure x := by intro _; rfl) : PuS X W (.For tg iter body [] pos) (tFor wi gg tb) (sFor src tgt gb) := ⟨ps_for hp hc hi.der hg.der hb.der hs, snd_for hi.snd hg.snd hb.snd⟩
/-! while -/
def whN (c : Env → M Bool) (b : Env → AS → SR) : Nat → Env → AS → SR
  | 0, _, _ => .un
  | n + 1, δ, A => onE (c δ A) δ fun k A1 => if k = true then (match b δ A1 with
    | .nx δ2 A2 => whN c b n δ2 A2
    | .ct δ2 A2 => whN c b n δ2 A2
    | .bk δ2 A2 => .nx δ2 A2
    | q => q) else .nx δ A1
theorem whN_succ (c : Env → M Bool) (b : Env → AS → SR) : ∀ (n : Nat) (δ : Env) (A : AS), whN c b n δ A ≠ .un → whN c b (n + 1) δ A = whN c b n δ A
  | 0, _, _, h => absurd rfl h
  | n + 1, δ, A, h => by
    unfold whN at h ⊢
    cases ec : c δ A with
    | un => rw [ec] at h; exact absurd rfl h
    | ex e A1 => rfl
    | ok k A1 =>
      rw [ec] at h
      simp only [onE_ok] at h ⊢
      cases k with
      | false => rfl
      | true =>
        simp only [if_true] at h ⊢
        cases eb : b δ A1 with
        | nx δ2 A2 => rw [eb] at h; exact whN_succ c b n δ2 A2 h
        | ct δ2 A2 => rw [eb] at h; exact whN_succ c b n δ2 A2 h
        | _ => rfl
theorem whN_le (c : Env → M Bool) (b : Env → AS → SR) {n m : Nat} (h : n ≤ m) {δ : Env} {A : AS} (hn : whN c b n δ A ≠ .un) : whN c b m δ A = whN c b n δ A := by
  induction h with
  | refl => rfl
  | step h ih => rw [whN_succ c b _ δ A (by rw [ih]; exact hn), ih]
open Classical in
def sWhile (c : Env → M Bool) (b : Env → AS → SR) : Env → AS → SR := fun δ A => if h : ∃ n, whN c b n δ A ≠ .un then whN c b h.choose δ A else .un
theorem sWhile_of {c : Env → M Bool} {b : Env → AS → SR} {n : Nat} {δ : Env} {A : AS} {r : SR} (h : whN c b n δ A = r) (hr : r ≠ .un) : sWhile c b δ A = r := by
  have hx : ∃ n, whN c b n δ A ≠ .un := ⟨n, by rw [h]; exact hr⟩
  unfold sWhile
  rw [dif_pos hx]
  have k1 := hx.choose_spec
  rcases Nat.le_total n hx.choose with hl | hl
  · rw [whN_le c b hl (by rw [h]; exact hr), h]
  · rw [← whN_le c b hl k1, h]
/-- one turn -/
theorem sWhile_eq (c : Env → M Bool) (b : Env → AS → SR) (δ : Env) (A : AS) : sWhile c b δ A = onE (c δ A) δ fun k A1 => if k = true then (match b δ A1 with
    | .nx δ2 A2 => sWhile c b δ2 A2
    | .ct δ2 A2 => sWhile c b δ2 A2
    | .bk δ2 A2 => .nx δ2 A2
    | q => q) else .nx δ A1 := by
  have some : ∀ δ2 A2, sWhile c b δ2 A2 ≠ .un → ∃ n, whN c b n δ2 A2 = sWhile c b δ2 A2 := fun δ2 A2 h => by
    by_cases hx : ∃ n, whN c b n δ2 A2 ≠ .un
    · exact ⟨hx.choose, by unfold sWhile; rw [dif_pos hx]⟩
    · unfold sWhile at h; rw [dif_neg hx] at h; exact absurd rfl h
  by_cases hz : ∃ n, whN c b n δ A ≠ .un
  · obtain ⟨n, hn⟩ := hz
    rw [sWhile_of rfl hn]
    cases n with
    | zero => exact absurd rfl hn
    | succ n =>
      unfold whN at hn ⊢
      cases ec : c δ A with
      | un => rfl
      | ex e A1 => rfl
      | ok k A1 =>
        rw [ec] at hn
        simp only [onE_ok] at hn ⊢
        cases k with
        | false => rfl
        | true =>
          simp only [if_true] at hn ⊢
          cases eb : b δ A1 with
          | nx δ2 A2 => rw [eb] at hn; exact (sWhile_of rfl hn).symm
          | ct δ2 A2 => rw [eb] at hn; exact (sWhile_of rfl hn).symm
          | _ => rfl
  · have h0 : sWhile c b δ A = .un := by unfold sWhile; rw [dif_neg hz]
    rw [h0]
    cases ec : c δ A with
    | un => rfl
    | ex e A1 => exact absurd ⟨1, by unfold whN; rw [ec]; exact fun z => nomatch z⟩ hz
    | ok k A1 =>
      simp only [onE_ok]
      cases k with
      | false => exact absurd ⟨1, by unfold whN; rw [ec]; exact fun z => nomatch z⟩ hz
      | true =>
        simp only [if_true]
        have go : ∀ q : Nat → SR, (∀ n, whN c b (n + 1) δ A = q n) → (∀ n, q n = .un) := fun q hq n => by
          cases e : q n with
          | un => rfl
          | _ => exact absurd ⟨n + 1, by rw [hq n, e]; exact fun z => nomatch z⟩ hz
        cases eb : b δ A1 with
        | nx δ2 A2 =>
          have h1 := go (fun n => whN c b n δ2 A2) fun n => by unfold whN; rw [ec]; simp only [onE_ok, if_true]; rw [eb]; cases n <;> rfl
          have : sWhile c b δ2 A2 = .un := by unfold sWhile; rw [dif_neg (fun ⟨n, hn⟩ => hn (h1 n))]
          exact this.symm
        | ct δ2 A2 =>
          have h1 := go (fun n => whN c b n δ2 A2) fun n => by unfold whN; rw [ec]; simp only [onE_ok, if_true]; rw [eb]; cases n <;> rfl
          have : sWhile c b δ2 A2 = .un := by unfold sWhile; rw [dif_neg (fun ⟨n, hn⟩ => hn (h1 n))]
          exact this.symm
        | un => rfl
        | bk δ2 A2 => exact absurd ⟨1, by unfold whN; rw [ec]; simp only [onE_ok, if_true]; rw [eb]; exact fun z => nomatch z⟩ hz
        | rt δ2 A2 => exact absurd ⟨1, by unfold whN; rw [ec]; simp only [onE_ok, if_true]; rw [eb]; exact fun z => nomatch z⟩ hz
        | ex δ2 A2 A3 => exact absurd ⟨1, by unfold whN; rw [ec]; simp only [onE_ok, if_true]; rw [eb]; exact fun z => nomatch z⟩ hz
theorem snd_while {tc : TT} {fc : Env → M Bool} {tb : TS} {gb : Env → AS → SR} (hc : Snd K mg W rT tc fc) (hb : SndS K mg W tb gb) : SndS K mg W (tWhile tc tb) (sWhile fc gb) := fun B σ δ H S μ A Dn s p => by
  have hx : ∃ n, whN fc gb n δ A ≠ .un := by
    by_cases hx : ∃ n, whN fc gb n δ A ≠ .un
    · exact hx
    · unfold sWhile at p; rw [dif_neg hx] at p; exact p.elim
  obtain ⟨n0, hn0⟩ := hx
  rw [sWhile_of rfl hn0] at p
  refine ⟨fun n σ2 H2 => ∃ δ2 S2 μ2 A2, StR W.xs K mg B σ2 δ2 H2 S2 μ2 A2 ∧ SPost K mg B S2 μ2 W Dn (whN fc gb n δ2 A2), ⟨n0, δ, S, μ, A, s, p⟩, ?_⟩
  rintro n σ2 H2 ⟨δ2, S2, μ2, A2, s2, p2⟩
  cases n with
  | zero => exact p2.elim
  | succ n =>
    unfold whN at p2
    refine hc B σ2 δ2 H2 S2 μ2 A2 _ s2 (SPost.onE s2 p2 fun k A3 (v : Bool) H3 S3 μ3 n3 r3 s3 q3 => ?_)
    cases r3
    cases k with
    | false => rw [if_neg Bool.false_ne_true] at q3 ⊢; exact q3 σ2 H3 S3 μ3 (Grow.refl _ _) s3
    | true =>
      rw [if_pos rfl] at q3 ⊢
      refine ⟨fun σ4 H4 => ∃ δ4 S4 μ4 A4, StR W.xs K mg B σ4 δ4 H4 S4 μ4 A4 ∧ SPost K mg B S4 μ4 W Dn (whN fc gb n δ4 A4), fun σ' H' h => ⟨n, Nat.lt_succ_self _, h⟩, hb B σ2 δ2 H3 S3 μ3 A3 _ s3 ?_⟩
      cases eb : gb δ2 A3 with
      | un => rw [eb] at q3; exact q3
      | nx δ5 A5 => rw [eb] at q3; exact fun σ5 H5 S5 μ5 g5 s5 => ⟨δ5, S5, μ5, A5, s5, SPost.grow g5 q3⟩
      | ct δ5 A5 => rw [eb] at q3; exact fun σ5 H5 S5 μ5 g5 s5 => ⟨δ5, S5, μ5, A5, s5, SPost.grow g5 q3⟩
      | bk δ5 A5 => rw [eb] at q3; exact q3
      | rt d5 A5 => rw [eb] at q3; exact q3
      | ex e5 δ5 A5 => rw [eb] at q3; exact q3
theorem pus_while {c : Expr} {body : List Stmt} {tc : TT} {fc : Env → M Bool} {tb : TS} {gb : Env → AS → SR} (hp : PassesOwn (model X.prog X.w) X.A X.env X.xe) (hc : PuT X W c tc fc) (hb : PuSs X W body tb gb) : PuS X W (.While c body [] pos) (tWhile tc tb) (sWhile fc gb) := ⟨ps_while hp hc.der hb.der, snd_while hc.snd hb.snd⟩
end
end Pv

noncomputable section
namespace Pv
open PySem PySem.Spec L2
open PyProof.Rows hiding St

section
variable {K : PySem.W.Frag} {mg : Str → Option Value} {B : Base} {σ : L2.St} {δ : Env} {H S H' S' S1 : Hp} {μ μ' μ1 : List Addr} {A A' A1 : AS} {W : WW} {Dn : Ends}
/-! ### what changes -/
theorem StR.mutOw {i : Nat} {p : Addr} {vs : List V} {ds : List D} (s : StR W.xs K mg B σ δ H S μ A) (e : σ[i]? = some (some (.ref p))) (ho : isOwn (sget δ i) = true) (h1 : ∃ us, H p = some (.lst us)) (hs : S p = none) (hm : p ∉ μ) (r : RpA K S μ vs ds) :
    StR W.xs K mg B σ (sset δ i (.ow ds)) (upd H p (.lst vs)) S μ A := by
  obtain ⟨us, h1⟩ := h1
  have own : ∀ j q, OwnAt (sset δ i (.ow ds)) σ j q → OwnAt δ σ j q := fun j q ⟨k1, k2⟩ => by
    by_cases z : i = j
    · subst z; exact ⟨ho, k2⟩
    · rw [sget_sset_ne z] at k1; exact ⟨k1, k2⟩
  refine ⟨s.nx.ownUpd (s.fr i p ⟨ho, e⟩) hs hm, s.b0, by rw [sset_length]; exact s.len, fun j => ?_, fun j q hq => s.fr j q (own j q hq), fun j k q hj hk => s.ap j k q (own j q hj) (own k q hk)⟩
  by_cases z : i = j
  · subst z
    by_cases hi : i < δ.length
    · rw [sget_sset_same hi]
      exact ⟨p, vs, e, upd_same, hs, hm, r⟩
    · rw [sget_out (by rw [sset_length]; exact Nat.le_of_not_lt hi)]; trivial
  · rw [sget_sset_ne z]
    have q := s.sl j
    have oz : ∀ q, OwnAt δ σ j q → q ≠ p := fun q hq e2 => z (s.ap i j q ⟨ho, by rw [e2]; exact e⟩ hq)
    revert oz
    unfold OwnAt
    generalize sget δ j = y at q
    intro oz
    cases y with
    | un => trivial
    | sh d => exact q
    | ow xs => obtain ⟨a, us', ev, k1, k2, k3, r⟩ := q; exact ⟨a, us', ev, by rw [upd_ne (oz a ⟨rfl, ev⟩)]; exact k1, k2, k3, r⟩
    | od xs => obtain ⟨a, us', ev, k1, k2, k3, r⟩ := q; exact ⟨a, us', ev, k1.at (upd_ne (oz a ⟨rfl, ev⟩)), k2, k3, r⟩
    | xc e => obtain ⟨a, dx, fs, v, e1, k1, k2, k3, k4, r⟩ := q; exact ⟨a, dx, fs, v, e1, k1, by rw [upd_ne (ne_of k2 h1 (fun z => nomatch z))]; exact k2, k3, k4, r⟩
theorem Nxt.setC {H0 S0 : Hp} {μ0 : List Addr} {n : Nat} {a : Addr} {o : HO} {c : Cell} (x : Nxt K mg H0 S0 μ0 A H S μ) (hn : μ[n]? = some a) (hc : CRep K mg S μ (upd H a o) a c) : Nxt K mg H0 S0 μ0 (A.set n c) (upd H a o) S μ := by
  have ha : a ∈ μ := List.mem_of_getElem? hn
  obtain ⟨e, he, hf⟩ := x.mu
  refine ⟨⟨fun b u h => ?_, by rw [List.length_set]; exact x.wd.len, x.wd.nd, x.wd.off, fun k c' b h1 h2 => ?_⟩, x.sub, x.mu, fun b u h hm => ?_, x.nw⟩
  · rw [upd_ne (fun z : b = a => by rw [z, x.wd.off a ha] at h; cases h)]; exact x.wd.sub b u h
  · by_cases hk : n = k
    · subst hk
      rw [hn] at h2
      cases h2
      rw [List.getElem?_set_self (by rw [← x.wd.len]; exact (List.getElem?_eq_some_iff.mp hn).1)] at h1
      cases h1
      exact hc
    · rw [List.getElem?_set_ne hk] at h1
      have hb : b ≠ a := fun z => hk (by
        subst z
        obtain ⟨l1, e1⟩ := List.getElem?_eq_some_iff.mp hn
        obtain ⟨l2, e2⟩ := List.getElem?_eq_some_iff.mp h2
        exact (List.getElem_inj x.wd.nd).mp (e1.trans e2.symm))
      have q := (x.wd.cell k c' b h1 h2).mono (e := []) (S' := S) (H' := upd H a o) (Same.refl _) (upd_ne hb)
      rw [List.append_nil] at q
      exact q
  · rw [upd_ne (fun z : b = a => ?_)]
    · exact x.fr b u h hm
    · subst z
      rw [he] at ha
      rcases List.mem_append.mp ha with z | z
      · exact hm z
      · rw [hf b z] at h; cases h
theorem StR.setC {n : Nat} {a : Addr} {o : HO} {c : Cell} (s : StR W.xs K mg B σ δ H S μ A) (hn : μ[n]? = some a) (hc : CRep K mg S μ (upd H a o) a c) : StR W.xs K mg B σ δ (upd H a o) S μ (A.set n c) := by
  have ha : a ∈ μ := List.mem_of_getElem? hn
  refine ⟨s.nx.setC hn hc, s.b0, s.len, fun j => ?_, s.fr, s.ap⟩
  have q := s.sl j
  generalize sget δ j = y at q
  cases y with
  | un => trivial
  | sh d => exact q
  | ow xs => obtain ⟨p, us', ev, k1, k2, k3, r⟩ := q; exact ⟨p, us', ev, by rw [upd_ne (fun z : p = a => k3 (by rw [z]; exact ha))]; exact k1, k2, k3, r⟩
  | od xs => obtain ⟨p, us', ev, k1, k2, k3, r⟩ := q; exact ⟨p, us', ev, k1.at (upd_ne (fun z : p = a => k3 (by rw [z]; exact ha))), k2, k3, r⟩
  | xc e => obtain ⟨p, dx, fs, v, e1, k1, k2, k3, k4, r⟩ := q; exact ⟨p, dx, fs, v, e1, k1, by rw [upd_ne (fun z : dx = a => k3 (by rw [z]; exact ha))]; exact k2, k3, k4, r⟩

/-! ### x.append(e) -/
variable {X : Cx} {pos : Pos} {e : Expr} {te : TE} {f : Env → M D}
def sApp (i : Nat) (f : Env → M D) : Env → AS → SR := fun δ A => match sget δ i with
  | .ow xs => onE (f δ A) δ fun d A1 => if szOk (xs.length + 1) = true then .nx (sset δ i (.ow (xs ++ [d]))) A1 else .un
  | .sh (.ref n) => match A[n]? with
    | some (.lst _) => onE (f δ A) δ fun d A1 => match A1[n]? with
      | some (.lst xs) => if szOk (xs.length + 1) = true then .nx δ (A1.set n (.lst (xs ++ [d]))) else .un
      | _ => .un
    | _ => .un
  | _ => .un
theorem snd_app {i : Nat} (hf : Snd K mg W (rE K) te f) : SndS K mg W (tDrop (tBM K "list" rAppend (tVar i) (tCons te tNil))) (sApp i f) := fun B σ δ H S μ A Dn s p => by
  unfold sApp at p
  have z := s.sl i
  cases hy : sget δ i with
  | ow xs =>
    rw [hy] at p z
    obtain ⟨q, vs, e1, h1, h2, h3, r⟩ := z
    refine ⟨_, e1, .inl ⟨rfl, vs, .inl (.inl h1)⟩, hf B σ δ H S μ A _ s (SPost.onE s p fun d A1 v H1 S1 μ1 n1 r1 s1 q1 => ?_)⟩
    by_cases hz : szOk (xs.length + 1) = true
    · rw [if_pos hz] at q1
      have k1 : H1 q = some (.lst vs) := n1.fr q _ h1 h3
      have hq : H q ≠ none := by rw [h1]; exact fun z => nomatch z
      have ra := n1.rpA r
      exact ⟨q, vs, v, rfl, rfl, k1, by rw [ra.length]; exact szOk_lt hz, q1 σ _ S1 μ1 (Grow.refl _ _) (s1.mutOw e1 (by rw [hy]; rfl) ⟨vs, k1⟩ (n1.nw q hq h2) (n1.notMu hq h3) (ra.append (.one r1)))⟩
    · rw [if_neg hz] at q1; exact q1.elim
  | sh d0 =>
    rw [hy] at p z
    cases d0 with
    | ref n =>
      dsimp only at p
      obtain ⟨w, e1, rw'⟩ := z
      cases rw' with
      | @ref a _ hm =>
        cases hA : A[n]? with
        | none => rw [hA] at p; exact p.elim
        | some c =>
          rw [hA] at p
          cases c with
          | lst xs0 =>
            obtain ⟨vs0, k0, _⟩ := s.wd.cell n _ a hA hm
            refine ⟨_, e1, .inl ⟨rfl, vs0, .inl (.inl k0)⟩, hf B σ δ H S μ A _ s (SPost.onE s p fun d A1 v H1 S1 μ1 n1 r1 s1 q1 => ?_)⟩
            obtain ⟨em, hem, _⟩ := n1.mu
            have hm1 : μ1[n]? = some a := by rw [hem]; exact mu_get hm
            cases hA1 : A1[n]? with
            | none => rw [hA1] at q1; exact q1.elim
            | some c =>
              rw [hA1] at q1
              cases c with
              | lst xs =>
                dsimp only at q1
                by_cases hz : szOk (xs.length + 1) = true
                · rw [if_pos hz] at q1
                  obtain ⟨vs, k1, k2⟩ := s1.wd.cell n _ a hA1 hm1
                  exact ⟨a, vs, v, rfl, rfl, k1, by rw [k2.length]; exact szOk_lt hz, q1 σ _ S1 μ1 (Grow.refl _ _) (s1.setC hm1 ⟨_, upd_same, k2.append (.one r1)⟩)⟩
                · rw [if_neg hz] at q1; exact q1.elim
              | _ => exact q1.elim
          | _ => exact p.elim
    | _ => exact p.elim
  | _ => rw [hy] at p; exact p.elim
theorem pus_app {i : Nat} {x : Str} {p apos cpos : Pos} (hv : PE X (.Name x p) (tVar i)) (he : PuE X W e te f) (hl : (apos.endLine == cpos.line) = true := by rfl) (hbase : attributeBase (.Name x p) "append" X.env (eval (.Name x p) X.env) = eval (.Name x p) X.env := by rfl)
    (hfew : ((backTo cpos (starEach (e :: []) X.env)).all (fun x => !x.1) && (backToKw cpos (keywordEach [] X.env)).all (fun x => x.1.isSome) && decide ((e :: ([] : List Expr)).length + ([] : List Keyword).length + (if ([] : List Keyword).isEmpty then 0 else 1) < 30)) = true := by rfl)
    (hst : starEach (e :: []) X.env = (false, eval e X.env) :: starEach [] X.env := by rfl) (hpl : (backTo cpos (starEach [] X.env)).any (·.1) = false := by rfl) (hs : swapsWith (.Call (.Attribute (.Name x p) "append" apos) [e] [] cpos) none pos.line X.env = pure false := by rfl) :
    PuS X W (.Expr (.Call (.Attribute (.Name x p) "append" apos) [e] [] cpos) pos) (tDrop (tBM X.K "list" rAppend (tVar i) (tCons te tNil))) (sApp i f) :=
  ⟨ps_expr (pe_bm PySem.F.plainAttrs_list PySem.F.slot_list_append PySem.F.type_list_append mt_append hv (pa_cons he.der pa_nil hst) hbase hfew hl hst hpl) hs, snd_app he.snd⟩

/-! ### o[i] = e, o a cell -/
def sSetIx (fo fi fe : Env → M D) : Env → AS → SR := fun δ A => onE (fe δ A) δ fun d A1 => onE (fo δ A1) δ fun o A2 => onE (fi δ A2) δ fun k A3 => match o, k with
  | .ref n, .int k => match A3[n]? with
    | some (.lst xs) => match ixN xs.length k with
      | some j => .nx δ (A3.set n (.lst (xs.set j d)))
      | none => .un
    | _ => .un
  | _, _ => .un
theorem snd_setIx {to ti : TE} {fo fi fe : Env → M D} (he : Snd K mg W (rE K) te fe) (ho : Snd K mg W (rE K) to fo) (hi : Snd K mg W (rE K) ti fi) : SndS K mg W (tAsg te (gSub to ti rSetL)) (sSetIx fo fi fe) := fun B σ δ H S μ A Dn s p =>
  he B σ δ H S μ A _ s (SPost.onE s p fun d A1 v H1 S1 μ1 n1 r1 s1 q1 =>
    ho B σ δ H1 S1 μ1 A1 _ s1 (SPost.onE s1 q1 fun o A2 u H2 S2 μ2 n2 r2 s2 q2 =>
      hi B σ δ H2 S2 μ2 A2 _ s2 (SPost.onE s2 q2 fun k A3 w H3 S3 μ3 n3 r3 s3 q3 => by
        cases o with
        | ref n =>
          cases k with
          | int k =>
            dsimp only at q3
            cases hA : A3[n]? with
            | none => rw [hA] at q3; exact q3.elim
            | some c =>
              rw [hA] at q3
              cases c with
              | lst xs =>
                dsimp only at q3
                cases hj : ixN xs.length k with
                | none => rw [hj] at q3; exact q3.elim
                | some j =>
                  rw [hj] at q3
                  cases (n3.rp r2) with
                  | @ref a _ hm =>
                    obtain ⟨vs, k1, k2⟩ := s3.wd.cell n _ a hA hm
                    exact ⟨a, vs, k, j, rfl, rp_int r3, k1, by rw [k2.length]; exact hj, q3 σ _ S3 μ3 (Grow.refl _ _) (s3.setC hm ⟨_, upd_same, k2.set (n3.rp (n2.rp r1)) j⟩)⟩
              | _ => exact q3.elim
          | _ => exact q3.elim
        | _ => exact q3.elim)))
theorem pus_setIx {o i : Expr} {to ti : TE} {fo fi fe : Env → M D} {spos : Pos} (he : PuE X W e te fe) (ho : PuE X W o to fo) (hi : PuE X W i ti fi)
    (d : PS X (.Assign [.Subscript o i spos] e pos) (tAsg te (gSub to ti rSetL))) : PuS X W (.Assign [.Subscript o i spos] e pos) (tAsg te (gSub to ti rSetL)) (sSetIx fo fi fe) := ⟨d, snd_setIx he.snd ho.snd hi.snd⟩

/-! ### defs and their calls -/
abbrev Fn := List D → AS → R D
def WW.ofE (E : XK) : WW := ⟨fun c d _ H' => E c d H', fun _ _ => False⟩
def spF (K : PySem.W.Frag) (mg : Str → Option Value) (n : Nat) (f : Fn) : Sp := fun vs H Q E => vs.length = n ∧ ∃ S μ A ds, Wd K mg S μ A H ∧ RpA K S μ vs ds ∧ EPost K mg H S μ (WW.ofE E) [] (rE K) Q (f ds A)
def startE (m : Nat) (ds : List D) : Env := ds.map Sl.sh ++ List.replicate (m - ds.length) Sl.un
def runF (m : Nat) (g : Env → AS → SR) : Fn := fun ds A => match g (startE m ds) A with
  | .nx _ A' => .ok .non A'
  | .rt d A' => .ok d A'
  | .ex e _ A' => .ex e A'
  | _ => .un
def eCall (n : Nat) (f : Fn) (fa : Env → M (List D)) : Env → M D := fun δ A => (fa δ A).bind fun ds A1 => if ds.length = n then f ds A1 else .un
variable {P : Program} {w : World} {base : Heap}
theorem start_sl {N : List Str} {vs : List V} {ds : List D} (r : RpA K S μ vs ds) (xs : Addr → Addr → Prop) : ∀ i, SlotR xs K mg S μ H (sget (startE N.length ds) i) (L2.start N vs)[i]? := fun i => by
  unfold startE L2.start
  have key : ∀ (ds : List D) (vs : List V) (k : Nat) (i : Nat), RpA K S μ vs ds → SlotR xs K mg S μ H (sget (ds.map Sl.sh ++ List.replicate k Sl.un) i) (vs.map some ++ List.replicate k (none : Option V))[i]? := by
    intro ds
    induction ds with
    | nil =>
      intro vs k i r
      have e : sget (List.map Sl.sh [] ++ List.replicate k Sl.un) i = .un := by
        show sget (List.replicate k Sl.un) i = .un
        clear r
        induction k generalizing i with
        | zero => rfl
        | succ k ih =>
          rw [List.replicate_succ]
          cases i with
          | zero => rfl
          | succ i => exact ih i
      rw [e]
      trivial
    | cons d ds ih =>
      intro vs k i r
      cases r with
      | @cons v vs _ _ a b =>
        cases i with
        | zero => exact ⟨v, rfl, a⟩
        | succ i =>
          have z := ih vs k i b
          exact z
  rw [r.length]
  exact key ds vs _ i r
theorem FnOk.ofBody {x qual : Str} {st : Stmt} {f : Addr} {fd : FuncData} {N ps : List Str} {k : Nat} {g : Env → AS → SR} (F : L2.Fun K x qual st f fd) (Sc : FnScope N ps (defScope st))
    (hb : ∀ (cdv : Value) (A : Around) (outer : List PySem.Env) (s : Shared) (H : Hp) (E : XK), Room k (A.deeper (envOfC qual (defScope st) s.heap.objs.size f cdv)) →
      ∃ t, PuSs (cxOf (L2.CX P w) P w K mg base N qual (defScope st) f cdv A outer s H E) (WW.ofE E) (defBody st) t g) : FnOk P w K mg base (L2.CX P w) (k + 1) f fd ps (spF K mg ps.length (runF N.length g)) :=
  F.okX Sc (fun vs H Q E h => h.1) fun cdv A outer s H vs Q E hr ⟨hl, S, μ, A0, ds, wd, r, p⟩ => by
    obtain ⟨t, h1, h2⟩ := hb cdv A outer s H E hr
    refine ⟨t, h1, h2 ⟨H, S, μ⟩ (L2.start N vs) (startE N.length ds) H S μ A0 _ ⟨Nxt.refl wd, wd.h0, ?_, start_sl r _, fun i p ho => ?_, fun i j p ho => ?_⟩ ?_⟩
    · unfold startE L2.start
      rw [List.length_append, List.length_append, List.length_map, List.length_map, List.length_replicate, List.length_replicate, r.length]
    · have own : ∀ (ds : List D) (k : Nat) (i : Nat), isOwn (sget (ds.map Sl.sh ++ List.replicate k Sl.un) i) = false := by
        intro ds
        induction ds with
        | nil =>
          intro k i
          show isOwn (sget (List.replicate k Sl.un) i) = false
          induction k generalizing i with
          | zero => rfl
          | succ k ih =>
            rw [List.replicate_succ]
            cases i with
            | zero => rfl
            | succ i => exact ih i
        | cons d ds ih =>
          intro k i
          cases i with
          | zero => rfl
          | succ i => exact ih k i
      have z := ho.1
      unfold startE at z
      rw [own] at z
      cases z
    · have own : ∀ (ds : List D) (k : Nat) (i : Nat), isOwn (sget (ds.map Sl.sh ++ List.replicate k Sl.un) i) = false := by
        intro ds
        induction ds with
        | nil =>
          intro k i
          show isOwn (sget (List.replicate k Sl.un) i) = false
          induction k generalizing i with
          | zero => rfl
          | succ k ih =>
            rw [List.replicate_succ]
            cases i with
            | zero => rfl
            | succ i => exact ih i
        | cons d ds ih =>
          intro k i
          cases i with
          | zero => rfl
          | succ i => exact ih k i
      have z := ho.1
      unfold startE at z
      rw [own] at z
      cases z
    · unfold runF at p
      cases eg : g (startE N.length ds) A0 with
      | un => rw [eg] at p; exact p
      | nx δ' A' => rw [eg] at p; exact fun σ' H' S' μ' _ s' => p .non H' S' μ' s'.nx .non
      | rt d A' => rw [eg] at p; exact fun v H' S' μ' n r => p v H' S' μ' n r
      | bk δ' A' => rw [eg] at p; exact p.elim
      | ct δ' A' => rw [eg] at p; exact p.elim
      | ex e δ' A' => rw [eg] at p; exact fun C dx σ' H' S' μ' _ s' er => p C dx H' S' μ' s'.nx er
theorem FnOk.fn {k n : Nat} {f : Addr} {fd : FuncData} {ps : List Str} {F G : Fn} (h : FnOk P w K mg base (L2.CX P w) k f fd ps (spF K mg n F)) (e : ∀ ds A, G ds A ≠ .un → F ds A = G ds A) : FnOk P w K mg base (L2.CX P w) k f fd ps (spF K mg n G) :=
  FnOk.imp h fun vs H Q E ⟨hl, S, μ, A, ds, wd, r, p⟩ => ⟨hl, S, μ, A, ds, wd, r, by
    rw [e ds A fun z => by rw [z] at p; exact p]
    exact p⟩
variable {es : List Expr} {tA : TA} {fa : Env → M (List D)} {k n : Nat} {fad : Addr} {fd : FuncData} {ps : List Str} {ff : Fn} {x : Str} {p : Pos}
theorem pu_call (tk : Takes X W.w) (F : FnOk X.prog X.w X.K X.mg X.base (L2.CX X.prog X.w) k fad fd ps (spF X.K X.mg n ff)) (hr : Room k X.A) (hg : Gl X x) (hm : X.mg x = some (.ref fad)) (hk : PySem.W.keepIn X.K (.ref fad) = true) (hb : Binds X.K fd ps []) (ha : PuA X W (e :: es) tA fa)
    (hdb : (x == ("__debug__" : Str)) = false := by decide) (he : starEach (e :: es) X.env = (false, eval e X.env) :: starEach es X.env := by rfl) (hpl : (backTo pos (starEach es X.env)).any (·.1) = false := by rfl) :
    PuE X W (.Call (.Name x p) (e :: es) [] pos) (tCallS (spF X.K X.mg n ff) (WE W.w) tA) (eCall n ff fa) := ⟨pe_callS F hr hg hm hk hb (fun σ => passAt tk σ) ha.der hdb he hpl, fun B σ δ H S μ A Q s p =>
  ha.snd B σ δ H S μ A _ s (EPost.bind up_E s.h0 p fun ds A1 vs H1 S1 μ1 n1 r1 p1 => by
    by_cases hl : ds.length = n
    · rw [if_pos hl] at p1
      refine ⟨r1.length.trans hl, S1, μ1, A1, ds, n1.wd, r1, ?_⟩
      cases ef : ff ds A1 with
      | un => rw [ef] at p1; exact p1
      | ok d A2 => rw [ef] at p1; exact p1
      | ex e A2 => rw [ef] at p1; exact p1
    · rw [if_neg hl] at p1; exact p1.elim)⟩

/-! ### raise -/
def MPost (K : PySem.W.Frag) (mg : Str → Option Value) (H S : Hp) (μ : List Addr) (Q : XK) : R Exc → Prop
  | .un => False
  | .ok e A' => ∀ C dx H' S' μ', Nxt K mg H S μ A' H' S' μ' → ERep K mg S' μ' H' e C dx → Q (.ref C) (some dx) H'
  | .ex _ _ => False
structure PuMk (X : Cx) (W : WW) (e : Expr) (t : L2.St → Hp → XK → Prop) (f : Env → M Exc) : Prop where
  der : PMk X e t
  snd : ∀ B σ δ H S μ A Q, StR W.xs X.K X.mg B σ δ H S μ A → MPost X.K X.mg H S μ Q (f δ A) → t σ H Q
def sRaise (f : Env → M Exc) : Env → AS → SR := fun δ A => match f δ A with
  | .ok e A' => .ex e δ A'
  | _ => .un
theorem pus_raise {t : L2.St → Hp → XK → Prop} {f : Env → M Exc} (hc : X.calm = true) (tk : Takes X W.w) (he : PuMk X W e t f) : PuS X W (.Raise (some e) none pos) (fun _ σ H => t σ H fun cls d H' => W.w cls d σ H') (sRaise f) := ⟨ps_raise hc tk he.der, fun B σ δ H S μ A Dn s p =>
  he.snd B σ δ H S μ A _ s (by
    unfold sRaise at p
    cases ef : f δ A with
    | un => rw [ef] at p; exact p
    | ex e A' => rw [ef] at p; exact p
    | ok e A' => rw [ef] at p; exact fun C dx H' S' μ' n r => p C dx σ H' S' μ' n.grow (s.step n) r)⟩
/-- the class cls(at) makes its error -/
def tMkE (C : Addr) (cls : Str) (ta : TA) : L2.St → Hp → XK → Prop := fun σ H Q => ta σ H fun vs H1 => ∃ v, vs = [v] ∧ ∀ d fs, H1 d = none → fs.lookup ("at" : Str) = some v → Q (.ref C) (some d) (upd H1 d (.xd fs))
def eMk (cls : Str) (fa : Env → M (List D)) : Env → M Exc := fun δ A => match fa δ A with
  | .ok [d] A1 => .ok ⟨cls, d⟩ A1
  | _ => .un
theorem pumk {C : Addr} {cls : Str} (hm : X.mg cls = some (.ref C)) (d : PMk X e (tMkE C cls tA)) (ha : Snd X.K X.mg W (rA X.K) tA fa) : PuMk X W e (tMkE C cls tA) (eMk cls fa) := ⟨d, fun B σ δ H S μ A Q s p =>
  ha B σ δ H S μ A _ s (by
    unfold eMk at p
    cases ef : fa δ A with
    | un => rw [ef] at p; exact p
    | ex e A' => rw [ef] at p; exact p.elim
    | ok ds A1 =>
      rw [ef] at p
      match ds, p with
      | [], p => exact p.elim
      | _ :: _ :: _, p => exact p.elim
      | [d0], p =>
        intro vs H1 S1 μ1 n r
        cases r with
        | cons a b =>
          cases b
          refine ⟨_, rfl, fun d fs hd hl => p C d _ S1 μ1 (n.trans s.h0 (Nxt.own n.wd hd)) ⟨hm, fs, _, upd_same, hl, a⟩⟩)⟩
end
end Pv

/-! errors whose __init__ calls super().__init__ -/
noncomputable section
namespace Pv
open PySem PySem.Spec L2 NdefX
open PyProof.Rows hiding St

/-- what the written part says of a class below D, whose super().__init__ from D is the built-in one -/
structure MC (K : PySem.W.Frag) (D C : Addr) : Prop where
  o : OexC K C
  dn : PySem.W.mroIn K C (.ref D) = some true
  su : PySem.W.ks_superIn K C D "__init__" = some (some (.builtin "ValueError.__init__"))
  ve : PySem.W.subIn K (.ref C) (.type "ValueError") = some true
  a1 : PySem.W.findIn K (.ref C) "at" = some none
  a2 : PySem.W.findIn K (.ref C) "name" = some none
/-- the class D by which __class__ stands in the cell, as the def at f has it -/
structure SupF (P : Program) (K : PySem.W.Frag) (F : NF) (f D cc : Addr) (sf : Str) : Prop where
  cl : F.cl = [(("__class__" : Str), cc)]
  fn : ∃ oc od fd osl ar, K.lookup f = some ⟨oc, od, .func fd, osl⟩ ∧ (fd.params.posonlyargs ++ fd.params.args).head? = some ar ∧ ar.arg = sf
  code : ∃ ccl cdd vs ccs file tf, K.lookup F.c = some ⟨ccl, cdd, .fields vs, ccs⟩ ∧ vs[2]? = some (.str file tf) ∧ ((P.main.file : Str) == file) = true
  cell : ∃ cl cld csl, K.lookup cc = some ⟨cl, cld, .cell (some (.ref D)), csl⟩
  cls : ∃ cd, PySem.W.clsIn K D = some cd
  ks : F.scope.names.lookup ("super" : Str) = some .globalImplicit
  kc : F.scope.names.lookup ("__class__" : Str) = some .free
  ka : F.scope.names.lookup sf = some .local
  kd : F.scope.kind = .function
  top : (P.main.scope.names.lookup ("super" : Str)).isSome = false
  op : PySem.W.nsIn K cStatics "thirdparty.any" = some none

section
variable {CX : CXT} {P : Program} {w : World} {K : PySem.W.Frag} {mg : Str → Option Value} {base : Heap} {N : List Str} {F : NF} {f D cc C a : Addr} {A : Around} {outer : List PySem.Env} {s0 : Shared} {H0 : Hp} {E0 : XK} {sf : Str}
theorem sup_so {pins : List (Addr × Obj)} {σ : L2.St} {H : Hp} {s : Shared} {body : List Stmt} {p0 p1 : Pos} {attr : Str} {whole : Sem Value} {Q : Value → Shared → Prop} {E : Value → Shared → Prop} {A' : Around} {ox : Obj}
    (S : SupF P K F f D cc sf) (I : Inv (ncx CX P w K mg base N F f A outer s0 H0 E0) pins σ H s) (hat : (attr == ("__class__" : Str)) = false) (hsup : mg "super" = none)
    (hs : ∃ m, s.heap.Ns s0.heap.objs.size m ∧ m sf = some (.ref a)) (hx : s.heap.get? a = some ox) (hc : ox.cls = .ref C) (hnc : ∀ c, ox.data ≠ .cls c) (hd : PySem.W.mroIn K C (.ref D) = some true)
    (h : ∀ so s', Inv (ncx CX P w K mg base N F f A outer s0 H0 E0) ((so, PySem.W.ks_superObj D a C) :: pins) σ H s' → (∀ b o, s.heap.get? b = some o → s'.heap.get? b = some o) → Q (.ref so) s') :
    _root_.PySem.wpAt (model P w) A' (.func body (ncx CX P w K mg base N F f A outer s0 H0 E0).env) (attributeBase (.Call (.Name "super" p0) [] [] p1) attr (ncx CX P w K mg base N F f A outer s0 H0 E0).env whole) Q E s := by
  have KX : K.In s.heap := I.kIn
  obtain ⟨oc, od, fd, osl, ar, hf1, hf2, har⟩ := S.fn
  obtain ⟨ccl, cdd, vs, ccs, file, tf, hc1, hc2, hc3⟩ := S.code
  obtain ⟨cl, cld, csl, hcl⟩ := S.cell
  obtain ⟨cdD, hD⟩ := S.cls
  obtain ⟨m, hns, hm⟩ := hs
  obtain ⟨oD, hD1, hD2⟩ : ∃ oD, s.heap.get? D = some oD ∧ oD.data = .cls cdD := by
    unfold PySem.W.clsIn at hD
    split at hD
    · rename_i c d cd' sl ho
      cases hD
      exact ⟨_, KX _ _ ho, rfl⟩
    · cases hD
  obtain ⟨mb, hb1, hb2⟩ := I.mod.blt
  have ecl : (ncx CX P w K mg base N F f A outer s0 H0 E0).env.cells.lookup ("__class__" : Str) = some cc := by
    show F.cl.lookup _ = _
    rw [S.cl]
    rfl
  refine PySem.ks_wpAt_super_base (env := (ncx CX P w K mg base N F f A outer s0 H0 E0).env) S.ks S.kc hat rfl (KX _ _ hf1) rfl hf2 rfl (KX _ _ hc1) rfl hc2 hc3 S.top ?_
  refine PySem.W.ks_loadName_global S.kd S.ks (Calls.loadGlobal_builtin (env := (ncx CX P w K mg base N F f A outer s0 H0 E0).env) (I.mod.glob.keeps I.bk) hsup (hb1.keeps I.bk) ((hb2 _ (by decide)).trans PyProof.Rows.Boot.«super») ⟨rfl, ?_⟩)
  refine wpAny_loadName_free S.kd S.kc ecl ⟨_, KX _ _ hcl, rfl⟩ ?_
  refine wpAny_loadName_local S.kd (name := ar.arg) (by rw [har]; exact S.ka) hns (by rw [har]; exact hm) ?_
  refine PySem.ks_wpAny_isType_cls hD1 hD2 ⟨rfl, ?_⟩
  obtain ⟨hh, g, d, t, os⟩ := s
  refine PySem.ks_wpAny_call_super hD1 hD2 hx hc hnc (PySem.W.looks_mroIn KX hd) (fun h' e k => ?_)
  exact h _ _ (ClX.pin_new (t' := t) I k (Nat.le_refl _) e (fun v z => nomatch z)) k

theorem exT {K : PySem.W.Frag} {C D : Addr} {n : Str} {v : Option Value} (h : PySem.W.ks_superIn K C D n = some v) : ∃ cd, PySem.W.clsIn K C = some cd ∧ PySem.W.alongIn K n ((cd.mro.dropWhile (· != .ref D)).drop 1) = some v := by
  unfold PySem.W.ks_superIn at h
  cases e : PySem.W.clsIn K C with
  | none => rw [e] at h; cases h
  | some cd => rw [e] at h; exact ⟨cd, rfl, h⟩
variable {X : Cx} {pins : List (Addr × Obj)} {σ : L2.St} {H : Hp} {s : Shared} {so q : Addr} {A' : Around} {E : Value → Shared → Prop}
/-- the built-in __init__ by super() -/
theorem sup_mw {pl : Sem Bool} {ox : Obj} {Q : Value × List Value → Shared → Prop} (I : Inv X ((so, PySem.W.ks_superObj D a C) :: pins) σ H s) (M : MC X.K D C) (op : PySem.W.nsIn X.K cStatics "thirdparty.any" = some none) (J : PySem.W.InstAt s.heap a ox C none)
    (h : ∀ u s', Inv X ((u, PySem.W.kxs_mw "ValueError.__init__" a) :: (so, PySem.W.ks_superObj D a C) :: pins) σ H s' → X.base.get? u = none → Q (.ref u, []) s') : wpAny (model X.prog X.w) A' (getMethod (.ref so) "__init__" pl) Q E s := by
  have KX : X.K.In s.heap := I.kIn
  obtain ⟨cd, h1, h2⟩ := exT M.su
  have hI : PySem.W.Looks (model X.prog X.w) s.heap (isInstance (.ref a) (.type "ValueError")) true :=
    (J.type).andThen (PySem.W.looks_subIn KX M.ve)
  obtain ⟨hh, g, d, t, os⟩ := s
  refine PySem.W.kxs_getMethod PySem.W.kxs_ValueError (ClX.pin_at I) (PySem.W.looks_opaque KX op) (l₀ := cd.mro) (fun A Q E s k q => wpAny_bind ((PySem.W.looks_clsIn KX h1) A _ E s k (wpAny_pure q))) rfl KX h2 hI (PySem.W.ks_ne KX J h1) (by decide) ?_
  exact h _ _ (ClX.pin_new (t' := t + 1) I (fun _ _ z => Heap.get?_push_of_some _ z) (Nat.le_refl _) (Heap.get?_push_size hh rfl) (fun v z => nomatch z)) (ClX.base_none I (Nat.le_refl _))
/-- a def's __init__ by super() -/
theorem sup_met {pl : Sem Bool} {ox : Obj} {f2 : Addr} {Q : Value × List Value → Shared → Prop} (I : Inv X ((so, PySem.W.ks_superObj D a C) :: pins) σ H s) (hs : PySem.W.ks_superIn X.K C D "__init__" = some (some (.ref f2))) (ht : PySem.W.typeIn X.K (.ref f2) = some (.type "function")) (op : PySem.W.nsIn X.K cStatics "thirdparty.any" = some none)
    (J : PySem.W.InstAt s.heap a ox C none)
    (h : ∀ u s', Inv X ((u, PySem.W.methodObj (.ref f2) (.ref a)) :: (so, PySem.W.ks_superObj D a C) :: pins) σ H s' → X.base.get? u = none → Q (.ref u, []) s') : wpAny (model X.prog X.w) A' (getMethod (.ref so) "__init__" pl) Q E s := by
  have KX : X.K.In s.heap := I.kIn
  obtain ⟨cd, h1, h2⟩ := exT hs
  obtain ⟨of, hof, hofc⟩ : ∃ of, s.heap.get? f2 = some of ∧ of.cls = .type "function" := by
    have ht' : (X.K.lookup f2).map (·.cls) = some (.type "function") := ht
    cases z : X.K.lookup f2 with
    | none => rw [z] at ht'; cases ht'
    | some of => rw [z] at ht'; exact ⟨of, KX _ _ z, Option.some.inj ht'⟩
  obtain ⟨hh, g, d, t, os⟩ := s
  refine PySem.ks_wpAny_getMethod_super (ClX.pin_at I) (PySem.W.looks_opaque KX op) (l₀ := cd.mro) (fun A Q E s k q => wpAny_bind ((PySem.W.looks_clsIn KX h1) A _ E s k (wpAny_pure q))) rfl KX h2 hof hofc (PySem.W.ks_ne KX J h1) (by decide) ?_
  exact h _ _ (ClX.pin_new (t' := t + 1) I (fun _ _ z => Heap.get?_push_of_some _ z) (Nat.le_refl _) (Heap.get?_push_size hh rfl) (fun v z => nomatch z)) (ClX.base_none I (Nat.le_refl _))
/-- the wrapper is called -/
theorem mw_call {u : Addr} {us : List Value} {Q : Value → Shared → Prop} (T : OexC X.K C) (I : Inv X ((u, PySem.W.kxs_mw "ValueError.__init__" a) :: pins) σ H s) (e : H a = some (exo a C none)) (hl : us.length ≤ sizeLine) (h : ∀ s', Inv X ((u, PySem.W.kxs_mw "ValueError.__init__" a) :: pins) σ H s' → Q .none s') :
    wpAny (model X.prog X.w) A' (call (.ref u) us) Q E s := by
  obtain ⟨nm, q, N, bs, bm, sn, sub, ab, col, dd, k0, k1, k2, k3, k5, hC, hbm⟩ := T.cls
  obtain ⟨t1, ho⟩ := exo_at I.hok e
  have hu := ClX.pin_at I
  have hC' := I.kIn _ _ hC
  obtain ⟨hp, g, d, t, os⟩ := s
  refine wpAny_call (codeAny_of_tree ?_)
  show wpAny _ A'.in1 (callAny (.ref u) ⟨us, []⟩) _ _ _
  simp only [callAny]
  refine wpAny_bind (wpAny_load hu ?_)
  simp only [PySem.W.kxs_mw, show (Value.type "method-wrapper" == Value.type "method" || Value.type "method-wrapper" == Value.type "builtin_function_or_method" || Value.type "method-wrapper" == Value.type "method-wrapper") = true by decide, if_true]
  refine PySem.W.KFB.if_so (by decide) ?_
  refine wpAny_bind (PySem.W.check_bound_init F.excBase_ValueError.toExcCallFacts hC' ho rfl ?_)
  refine wpAny_bind (wpAny_pure (wpAny_pure ?_))
  refine ⟨plainId_quiet F.excBase_ValueError.init.plain _, codeAny_builtin F.excBase_ValueError.initEntry ?_⟩
  refine PySem.W.exc_init_tree (cls := .ref C) (t0 := t1) (dv := none) (c2 := .none) ho hl fun h' k hx _ => ?_
  have J := I.write (t' := t) (x := a) (e := a) (o := exo a C none) (by rw [e]; exact True.intro) (.inl rfl) k ⟨_, hx⟩ (exo_ok hx)
  have eu : upd H a (exo a C none) = H := by
    funext b
    by_cases hb : b = a
    · rw [hb, upd_same, e]
    · rw [upd_ne hb]
  rw [eu] at J
  exact h _ J
end
section
variable {P : Program} {w : World} {K : PySem.W.Frag} {mg : Str → Option Value} {base : Heap} {N ps : List Str} {F : NF} {f D cc : Addr} {k : Nat} {sp : Sp}
abbrev ncA (P : Program) (w : World) (K : PySem.W.Frag) (mg : Str → Option Value) (base : Heap) (N : List Str) (F : NF) (f : Addr) (A : Around) (outer : List PySem.Env) (s : Shared) (H : Hp) (E : XK) : Cx := ncx (L2.CX P w) P w K mg base N F f A outer s H E
theorem FnOk.ofSup {kV doc pm ct oc dV : Value} {an od : Option Addr} {osl : Array (Option Value)} (lk : K.lookup f = some ⟨oc, od, .func (PySem.W.fnX F.name F.qual F.params F.body F.scope F.cl dV kV doc pm an (.ref F.c) ct), osl⟩) (hcd : PySem.W.codeIn K (.ref F.c) F.qual = true)
    (hcl : F.cl = [(("__class__" : Str), cc)]) (cell : ∃ cl cld csl, K.lookup cc = some ⟨cl, cld, .cell (some (.ref D)), csl⟩) (S : NScope N ps ["__class__"] F.scope) (len : ∀ vs H Q E, sp vs H Q E → vs.length = ps.length)
    (hbody : ∀ (A : Around) (outer : List PySem.Env) (s : Shared) (H : Hp) (vs : List V) (us : List Value) (Q : VK) (E : XK) (h₁ : Heap) (tk : Nat), Room k (A.deeper (envF F f s.heap.objs.size)) → sp vs H Q E → Vals vs us → h₁.Ns s.heap.objs.size (fun y => (ps.zip us).reverse.lookup y) →
      L2.Inv (ncA P w K mg base N F f A outer s H E) [] (startF N vs [none]) H { s with heap := h₁, toks := tk } →
      _root_.PySem.wpAt (model P w) (ncA P w K mg base N F f A outer s H E).A (.func F.body (ncA P w K mg base N F f A outer s H E).env) (execs F.body (ncA P w K mg base N F f A outer s H E).env) (L2.SP (ncA P w K mg base N F f A outer s H E) [] { nx := fun _ H' => Q .non H', rt := Q }) (ncA P w K mg base N F f A outer s H E).xe { s with heap := h₁, toks := tk }) :
    FnOk P w K mg base (L2.CX P w) (k + 1) f (PySem.W.fnX F.name F.qual F.params F.body F.scope F.cl dV kV doc pm an (.ref F.c) ct) ps sp := by
  refine ⟨len, fun A outer s H args us vs Q E hr e0 hb r hsp => ?_⟩
  have hl := len _ _ _ _ hsp
  have KX : K.In s.heap := e0.mod.kin.keeps fun b o e => (e0.bs b o e).1
  have lim : s.heap.NoLimit := e0.mod.nolimit.keeps fun b o e => (e0.bs b o e).1
  obtain ⟨c1, c2, c3, hc⟩ := cell
  have C : CellsAt F.cl ["__class__"] [none] s.heap H := ⟨rfl, fun y c h => by
      rw [hcl] at h
      have hcc : c = cc := by
        by_cases e : y = ("__class__" : Str)
        · subst e
          have h : some cc = some c := h
          cases h <;> rfl
        · have z : ((y == ("__class__" : Str)) = false) := by simpa using e
          simp [List.lookup, z] at h
      subst hcc
      refine ⟨?_, _, _, KX _ _ hc, rfl⟩
      have q := KX _ _ hc
      exact (e0.bs c _ (e0.mod.kin _ _ hc)).2, fun x y c h1 h2 => by
      rw [hcl] at h1 h2
      have key : ∀ z : Str, List.lookup z [(("__class__" : Str), cc)] = some c → z = ("__class__" : Str) := fun z h => by
        by_cases e : z = ("__class__" : Str)
        · exact e
        · have q : ((z == ("__class__" : Str)) = false) := by simpa using e
          simp [List.lookup, q] at h
      rw [key x h1, key y h2], fun i y h => by
      match i, h with
      | 0, h =>
        have h : some ("__class__" : Str) = some y := h
        cases h
        exact ⟨cc, by rw [hcl]; rfl, fun v z => by cases z⟩
      | i + 1, h =>
        have h : (none : Option Str) = some y := by simpa using h
        cases h⟩
  refine codeAny_call_function hr.depth (KX _ _ lk) rfl S.co S.gen rfl (PySem.W.codeRec_of KX hcd) (hb _ _ _ _ ?_)
  refine wpAny_newFunctionEnv S.nocell (fun ⟨n, _⟩ hy => S.par n (List.of_mem_zip hy).1) (fun h₁ hns hsb => ⟨lim.fresh _ hsb, ?_⟩) S.kind
  show codeAny _ _ (.func F.body (envF F f s.heap.objs.size)) _ _
  refine ks_codeAny_funcAt ?_
  have kp : ∀ b o, s.heap.get? b = some o → h₁.get? b = some o := fun b o e => hsb.extBut b o (Nat.ne_of_lt (Heap.lt_size e)) (Heap.get?_push_of_some _ e)
  have I : L2.Inv (ncA P w K mg base N F f A outer s H E) [] (startF N vs [none]) H { s with heap := h₁, toks := s.toks + (ps.zip us).length } := inv_startN S hr.hd e0 hl r C hns kp
  refine ks_wpAt_mono (hbody A outer s H vs us Q E h₁ _ (hr.deeper _) hsp r hns I) (fun fl s' hs => ?_) fun e s' hs => hs
  have fin : ∀ {σ' : L2.St} {H' : Hp} {v : V} {u : Value}, L2.Inv (ncA P w K mg base N F f A outer s H E) [] σ' H' s' → L2.RelV v u → Q v H' → CE outer P w H s Q u s' :=
    fun {σ' H' v u} J rv q => ⟨v, H', J.os, J.bare, J.base, J.hok, rv, q⟩
  cases fl with
  | ret u =>
    obtain ⟨v, σ', H', J, rv, q⟩ := hs
    exact fin J rv q
  | next =>
    obtain ⟨σ', H', J, q⟩ := hs
    exact fin (v := V.non) (u := Value.none) J rfl q
  | brk =>
    obtain ⟨_, _, _, q⟩ := hs
    exact False.elim q
  | cont =>
    obtain ⟨_, _, _, q⟩ := hs
    exact False.elim q
end
section
variable {P : Program} {w : World} {K : PySem.W.Frag} {mg : Str → Option Value} {base : Heap} {N ps : List Str} {F : NF} {f D cc C a : Addr} {A : Around} {outer : List PySem.Env} {s0 : Shared} {H0 : Hp} {E0 : XK} {sf : Str}
theorem at_doc {X : Cx} {c : Code} {x j pos pos'} {rest : List Stmt} {D : Ends} {σ : L2.St} {H : Hp} {s : Shared} {Q : Flow → Shared → Prop} {m : Str → Option Value} (I : L2.Inv X [] σ H s) (hns : s.heap.Ns X.env.locals m)
    (h : ∀ s', L2.Inv X [] σ H s' → s'.heap.Ns X.env.locals m → _root_.PySem.wpAt (model X.prog X.w) X.A c (execs rest X.env) Q X.xe s') :
    _root_.PySem.wpAt (model X.prog X.w) X.A c (execs (.Expr (.Constant (.str x) j pos) pos' :: rest) X.env) Q X.xe s :=
  ks_wpAt_execs_cons (PySem.wpAt_of_wpAny (wpAny_Expr (Calls.Constant_str (h _ (I.tok _) hns)) I.quiet))
variable {p0 p1 ap cp ep : Pos} {e : Expr} {es : List Expr} {rest : List Stmt} {ta : TA} {t : TS} {pl : Sem Bool} {σ : L2.St} {H : Hp} {s : Shared} {D' : Ends} {m : Str → Option Value} {body : List Stmt}
theorem at_super_mw (S : SupF P K F f D cc sf) (M : MC K D C) (I : L2.Inv (ncA P w K mg base N F f A outer s0 H0 E0) [] σ H s) (hsup : mg "super" = none) (hns : s.heap.Ns s0.heap.objs.size m) (hm : m sf = some (.ref a)) (ea : H a = some (exo a C none))
    (ha : PA (ncA P w K mg base N F f A outer s0 H0 E0) (e :: es) ta) (hr : PSs (ncA P w K mg base N F f A outer s0 H0 E0) rest t) (q : ta σ H fun vs H1 => vs.length ≤ 1000 ∧ H1 a = some (exo a C none) ∧ t D' σ H1)
    (hi : interactive (ncA P w K mg base N F f A outer s0 H0 E0).env = false) (hs : swapsWith (.Call (.Attribute (.Call (.Name "super" p0) [] [] p1) "__init__" ap) (e :: es) [] cp) none ep.line (ncA P w K mg base N F f A outer s0 H0 E0).env = pure false)
    (he : eval (.Call (.Attribute (.Call (.Name "super" p0) [] [] p1) "__init__" ap) (e :: es) [] cp) (ncA P w K mg base N F f A outer s0 H0 E0).env = (do
      let ov ← attributeBase (.Call (.Name "super" p0) [] [] p1) "__init__" (ncA P w K mg base N F f A outer s0 H0 E0).env (eval (.Call (.Name "super" p0) [] [] p1) (ncA P w K mg base N F f A outer s0 H0 E0).env)
      standAt ap.atName
      let (fx, first) ← holding [ov] (getMethod ov "__init__" pl)
      callWith cp fx first (backTo cp (starEach (e :: es) (ncA P w K mg base N F f A outer s0 H0 E0).env)) []))
    (hst : starEach (e :: es) (ncA P w K mg base N F f A outer s0 H0 E0).env = (false, eval e (ncA P w K mg base N F f A outer s0 H0 E0).env) :: starEach es (ncA P w K mg base N F f A outer s0 H0 E0).env) (hpl : (backTo cp (starEach es (ncA P w K mg base N F f A outer s0 H0 E0).env)).any (·.1) = false) :
    _root_.PySem.wpAt (model P w) (ncA P w K mg base N F f A outer s0 H0 E0).A (.func body (ncA P w K mg base N F f A outer s0 H0 E0).env) (execs (.Expr (.Call (.Attribute (.Call (.Name "super" p0) [] [] p1) "__init__" ap) (e :: es) [] cp) ep :: rest) (ncA P w K mg base N F f A outer s0 H0 E0).env)
      (L2.SP (ncA P w K mg base N F f A outer s0 H0 E0) [] D') (ncA P w K mg base N F f A outer s0 H0 E0).xe s := by
  refine ks_wpAt_execs_cons (ks_wpAt_Expr_any (ks_wpAt_MethodCall (pl := pl) ?_ he) hi hs)
  obtain ⟨t1, ho⟩ := exo_at I.hok ea
  refine sup_so S I (by decide) hsup ⟨m, hns, hm⟩ ho rfl (fun c z => nomatch z) M.dn fun so s1 I1 k1 => ?_
  obtain ⟨t2, ho1⟩ := exo_at I1.hok ea
  refine sup_mw (X := ncA P w K mg base N F f A outer s0 H0 E0) I1 M S.op (ox := _) ⟨ho1, rfl, rfl, trivial⟩ fun u s2 I2 nb => ?_
  have hL : u ≠ (ncA P w K mg base N F f A outer s0 H0 E0).env.locals := (I2.pin (u, PySem.W.kxs_mw "ValueError.__init__" a) (List.mem_append_right _ List.mem_cons_self)).2.2.1
  refine PySem.W.kxs_callWith1 (news_at hL nb (ClX.pin_at I2)) List.mem_cons_self ?_ hst hpl
  refine thn (ha.run cp _ s2 σ H _ I2 q) fun us s3 ⟨vs, H1, I3, r, hz, ea1, q1⟩ => ⟨ClX.pin_at I3, ?_⟩
  exact mw_call M.o I3 ea1 (by rw [← Paired.length r, sizeLine_eq]; omega) fun s4 I4 => PySem.wpAt_of_wpAny (hr.run [] s4 σ H1 D' (ClX.unpin (ClX.unpin I4)) q1)
theorem at_super_met {k2 : Nat} {f2 : Addr} {sp2 : Sp} (S : SupF P K F f D cc sf) (M : PySem.W.ks_superIn K C D "__init__" = some (some (.ref f2))) (tf : PySem.W.typeIn K (.ref f2) = some (.type "function")) (ff : PySem.W.fnIn K f2 = true) (dn : PySem.W.mroIn K C (.ref D) = some true) (R2 : FnR P w K mg base (L2.CX P w) k2 f2 sp2) (rm : Room k2 (ncA P w K mg base N F f A outer s0 H0 E0).A) (I : L2.Inv (ncA P w K mg base N F f A outer s0 H0 E0) [] σ H s) (hsup : mg "super" = none) (hns : s.heap.Ns s0.heap.objs.size m) (hm : m sf = some (.ref a)) (ea : H a = some (exo a C none))
    (ha : PA (ncA P w K mg base N F f A outer s0 H0 E0) (e :: es) ta) (hr : PSs (ncA P w K mg base N F f A outer s0 H0 E0) rest t) (q : ta σ H fun vs H1 => sp2 (.ref a :: vs) H1 (fun _ H2 => t D' σ H2) (fun _ _ _ => False))
    (hi : interactive (ncA P w K mg base N F f A outer s0 H0 E0).env = false) (hs : swapsWith (.Call (.Attribute (.Call (.Name "super" p0) [] [] p1) "__init__" ap) (e :: es) [] cp) none ep.line (ncA P w K mg base N F f A outer s0 H0 E0).env = pure false)
    (he : eval (.Call (.Attribute (.Call (.Name "super" p0) [] [] p1) "__init__" ap) (e :: es) [] cp) (ncA P w K mg base N F f A outer s0 H0 E0).env = (do
      let ov ← attributeBase (.Call (.Name "super" p0) [] [] p1) "__init__" (ncA P w K mg base N F f A outer s0 H0 E0).env (eval (.Call (.Name "super" p0) [] [] p1) (ncA P w K mg base N F f A outer s0 H0 E0).env)
      standAt ap.atName
      let (fx, first) ← holding [ov] (getMethod ov "__init__" pl)
      callWith cp fx first (backTo cp (starEach (e :: es) (ncA P w K mg base N F f A outer s0 H0 E0).env)) []))
    (hst : starEach (e :: es) (ncA P w K mg base N F f A outer s0 H0 E0).env = (false, eval e (ncA P w K mg base N F f A outer s0 H0 E0).env) :: starEach es (ncA P w K mg base N F f A outer s0 H0 E0).env) (hpl : (backTo cp (starEach es (ncA P w K mg base N F f A outer s0 H0 E0).env)).any (·.1) = false) :
    _root_.PySem.wpAt (model P w) (ncA P w K mg base N F f A outer s0 H0 E0).A (.func body (ncA P w K mg base N F f A outer s0 H0 E0).env) (execs (.Expr (.Call (.Attribute (.Call (.Name "super" p0) [] [] p1) "__init__" ap) (e :: es) [] cp) ep :: rest) (ncA P w K mg base N F f A outer s0 H0 E0).env)
      (L2.SP (ncA P w K mg base N F f A outer s0 H0 E0) [] D') (ncA P w K mg base N F f A outer s0 H0 E0).xe s := by
  refine ks_wpAt_execs_cons (ks_wpAt_Expr_any (ks_wpAt_MethodCall (pl := pl) ?_ he) hi hs)
  obtain ⟨t1, ho⟩ := exo_at I.hok ea
  refine sup_so S I (by decide) hsup ⟨m, hns, hm⟩ ho rfl (fun c z => nomatch z) dn fun so s1 I1 k1 => ?_
  obtain ⟨t2, ho1⟩ := exo_at I1.hok ea
  refine sup_met (X := ncA P w K mg base N F f A outer s0 H0 E0) I1 M tf S.op (ox := _) ⟨ho1, rfl, rfl, trivial⟩ fun u s2 I2 nb => ?_
  refine ClX.callwith_cm I2 nb ff ?_ hst hpl
  refine thn (ha.run cp _ s2 σ H _ I2 q) fun us s3 ⟨vs, H1, I3, r, q1⟩ => ⟨⟨ClX.pin_at I3, I3.kIn⟩, ?_⟩
  refine thn (ClX.run_cm R2 rm (passes_call (W := fun c d _ H' => E0 c d H') (takes_of rfl rfl rfl rfl) fun _ _ _ _ h => h.elim) I3 r q1) fun u s4 ⟨v, H2, I4, r4, q2⟩ => ?_
  exact PySem.wpAt_of_wpAny (hr.run [] s4 σ H2 D' (ClX.unpin I4) q2)
end

/-! ### what the two __init__ promise, and the maker -/
section
variable {K : PySem.W.Frag} {D C a : Addr} {σ : L2.St} {H : Hp} {D' : Ends} {v n : V}
/-- behind the __init__: the error at a has a dict at d of these fields; all else is as it was -/
def IEnd (H : Hp) (a C : Addr) (fs : List (Str × V) → Prop) (q : Hp → Prop) : Prop := ∀ d l H2, fs l → H d = none → d ≠ a → H2 a = some (exo a C (some d)) → H2 d = some (exd d l) → (∀ b, b ≠ a → b ≠ d → H2 b = H b) → q H2
def spM (K : PySem.W.Frag) (D : Addr) : Sp := fun vs H Q E => ∃ a C v n, vs = [.ref a, v, n] ∧ MC K D C ∧ H a = some (exo a C none) ∧ IEnd H a C (fun l => l.lookup ("at" : Str) = some v ∧ l.lookup ("name" : Str) = some n) (Q .non)
def spI (C : Addr) : Sp := fun vs H Q E => ∃ a v, vs = [.ref a, v] ∧ H a = some (exo a C none) ∧ IEnd H a C (fun l => l.lookup ("at" : Str) = some v) (Q .non)
theorem meter_q (M : MC K D C) (e0 : σ[0]? = some (some (.ref a))) (e1 : σ[1]? = some (some v)) (e2 : σ[2]? = some (some n)) (ea : H a = some (exo a C none))
    (h : IEnd H a C (fun l => l.lookup ("at" : Str) = some v ∧ l.lookup ("name" : Str) = some n) (D'.nx σ)) :
    tSeq (tOst K "at" (tVar 0) (tVar 1)) (tSeq (tOst K "name" (tVar 0) (tVar 2)) tNext) D' σ H := by
  refine ⟨v, e1, _, e0, a, C, rfl, M.o, M.a1, .inl ⟨ea, fun dx n1 n2 => ?_⟩⟩
  refine ⟨n, e2, _, e0, a, C, rfl, M.o, M.a2, .inr ⟨dx, [("at", v)], upd_same, by rw [upd_ne n2, upd_same], by simp, ?_⟩⟩
  refine h dx [("name", n), ("at", v)] _ ⟨rfl, rfl⟩ n1 n2 (by rw [upd_ne (Ne.symm n2), upd_same]) upd_same fun b h1 h2 => ?_
  rw [upd_ne h2, upd_ne h1, upd_ne h2]
theorem super_q {k : Str} (M : MC K D C) (e1 : σ[1]? = some (some v)) (ea : H a = some (exo a C none)) (h : IEnd H a C (fun l => l.lookup ("at" : Str) = some v) (D'.nx σ)) :
    tCons (tVar 1) (tCons (tC (.str k)) tNil) σ H fun vs H1 => spM K D (.ref a :: vs) H1 (fun _ H2 => tNext D' σ H2) (fun _ _ _ => False) :=
  ⟨v, e1, a, C, v, .str k, rfl, M, ea, fun d l H2 hl => h d l H2 hl.1⟩
variable {X : Cx} {W : WW} {e : Expr} {cls : Str} {tA : TA} {fa : Env → M (List Pv.D)} {p pos : Pos} {fI : Addr} {k : Nat} {fd : FuncData}
theorem pumk_own (T : OexC X.K C) (iC : PySem.W.findIn X.K (.ref C) "__init__" = some (some (.ref fI))) (tI : PySem.W.typeIn X.K (.ref fI) = some (.type "function"))
    (F1 : FnOk X.prog X.w X.K X.mg X.base (L2.CX X.prog X.w) k fI fd ["self", "at"] (spI C)) (hr : Room (k + 1) X.A) (hb : Binds X.K fd ["self", "at"] []) (tk : Takes X W.w) (hg : Gl X cls) (hm : X.mg cls = some (.ref C)) (ha : PuA X W [e] tA fa)
    (hdb : (cls == ("__debug__" : Str)) = false := by decide) (he : starEach (e :: []) X.env = (false, eval e X.env) :: starEach [] X.env := by rfl) (hpl : (backTo pos (starEach [] X.env)).any (·.1) = false := by rfl) :
    PuMk X W (.Call (.Name cls p) [e] [] pos) (tMkO C (spI C) [] tA) (eMk cls fa) :=
  ⟨pmk_oex T iC tI F1 hr hb .nil (passes_call tk fun _ _ _ _ h => h.elim) hg hm ha.der hdb he hpl, fun B σ δ H S μ A Q s p =>
  ha.snd B σ δ H S μ A _ s (by
    unfold eMk at p
    cases ef : fa δ A with
    | un => rw [ef] at p; exact p
    | ex e A' => rw [ef] at p; exact p.elim
    | ok ds A1 =>
      rw [ef] at p
      match ds, p with
      | [], p => exact p.elim
      | _ :: _ :: _, p => exact p.elim
      | [d0], p =>
        intro vs H1 S1 μ1 n r
        cases r with
        | @cons v _ _ _ ra b =>
          cases b
          refine ⟨by simp, fun a hna => ⟨a, v, rfl, upd_same, fun d l H2 hl hd hda e1 e2 fr => ⟨rfl, d, l, e1, e2, by rw [upd_ne hda] at hd; exact hd, ?_⟩⟩⟩
          have hd1 : H1 d = none := by rw [upd_ne hda] at hd; exact hd
          have eu : upd (del H2 a) d (.xd l) = upd H1 d (.xd l) := by
            funext b
            by_cases hb : b = d
            · rw [hb, upd_same, upd_same]
            · rw [upd_ne hb, upd_ne hb]
              by_cases hba : b = a
              · rw [hba, del_same, hna]
              · rw [del_ne hba, fr b hba hb, upd_ne hba]
          rw [eu]
          exact p C d _ S1 μ1 (n.trans s.h0 (Nxt.own n.wd hd1)) ⟨hm, l, _, upd_same, hl, ra⟩)⟩
end
end Pv

/-! try .. except X as e -/
noncomputable section
namespace Pv
open PySem PySem.Spec L2
open PyProof.Rows hiding St

section
variable {K : PySem.W.Frag} {mg : Str → Option Value} {B : Base} {σ : L2.St} {δ : Env} {H S H' S' : Hp} {μ μ' : List Addr} {A A' : AS} {W : WW} {Dn : Ends}
def isXc : Sl → Bool
  | .xc _ => true
  | _ => false
def noXc (δ : Env) : Bool := δ.all fun x => !isXc x
theorem noXc_get {δ : Env} (h : noXc δ = true) (i : Nat) : isXc (sget δ i) = false := by
  by_cases hi : i < δ.length
  · have z := List.all_eq_true.mp h (sget δ i) (by
      have e : ∀ (δ : Env) (i : Nat), i < δ.length → sget δ i ∈ δ := by
        intro δ
        induction δ with
        | nil => intro i h; exact absurd h (Nat.not_lt_zero _)
        | cons x δ ih =>
          intro i h
          cases i with
          | zero => exact List.mem_cons_self
          | succ i => exact List.mem_cons_of_mem _ (ih i (Nat.lt_of_succ_lt_succ h))
      exact e δ i hi)
    simpa using z
  · rw [sget_out (Nat.le_of_not_lt hi)]; rfl
theorem StR.xs_any {xs xs' : Addr → Addr → Prop} (s : StR xs K mg B σ δ H S μ A) (h : noXc δ = true) : StR xs' K mg B σ δ H S μ A := by
  refine ⟨s.nx, s.b0, s.len, fun i => ?_, s.fr, s.ap⟩
  have z := s.sl i
  have y := noXc_get h i
  revert z y
  generalize sget δ i = x
  intro z y
  cases x with
  | xc e => cases y
  | un => exact z
  | sh d => exact z
  | ow xs => exact z
  | od xs => exact z
/-- an exception's dict is no cell -/
theorem Wd.noCell {fs : List (Str × V)} {dx : Addr} (w : Wd K mg S μ A H) (h : H dx = some (.xd fs)) : dx ∉ μ := fun hm => by
  obtain ⟨n, hn⟩ := List.mem_iff_getElem?.mp hm
  obtain ⟨l1, e1⟩ := List.getElem?_eq_some_iff.mp hn
  have l2 : n < A.length := by rw [← w.len]; exact l1
  have c := w.cell n A[n] dx (List.getElem?_eq_getElem l2) hn
  generalize A[n] = c0 at c
  cases c0 with
  | lst xs => obtain ⟨vs, k, _⟩ := c; rw [h] at k; cases k
  | dic kvs =>
    obtain ⟨vs, k, _⟩ := c
    have q : ∀ {vs : List (D × V)}, DAt H dx vs → H dx = some (.xd fs) → False := fun k h => by
      cases k with
      | k z => exact nomatch (h.symm.trans z)
      | t z => exact nomatch (h.symm.trans z)
    exact q k h
  | ins cls fs =>
    obtain ⟨C, d, vs, _, k, _⟩ := c
    exact nomatch (h.symm.trans k)

/-! ### the rule -/
/-- which classes the clause catches -/
abbrev Cat := Str → Option Bool
def sTry (cat : Cat) (i : Nat) (g h : Env → AS → SR) : Env → AS → SR := fun δ A => match g δ A with
  | .ex e δ1 A1 => match cat e.cls with
    | some false => .ex e δ1 A1
    | some true => if noXc δ1 = true then (match h (sset δ1 i (.xc e)) A1 with
      | .nx δ2 A2 => if noXc (sset δ2 i .un) = true then .nx (sset δ2 i .un) A2 else .un
      | .bk δ2 A2 => if noXc (sset δ2 i .un) = true then .bk (sset δ2 i .un) A2 else .un
      | .ct δ2 A2 => if noXc (sset δ2 i .un) = true then .ct (sset δ2 i .un) A2 else .un
      | .rt d A2 => .rt d A2
      | _ => .un) else .un
    | none => .un
  | r => r
/-- the reading of the suite, for a caught class -/
def tsC (G : Addr → Prop) (ts : Addr → Addr → Addr → TS) : Addr → Value → Option Addr → TS := fun a cls d => match cls, d with
  | .ref C, some dx => @ite _ (G C) (Classical.propDecidable _) (ts a C dx) (fun _ _ _ => False)
  | _, _ => fun _ _ _ => False
def Caught (K : PySem.W.Frag) (mg : Str → Option Value) (cat : Cat) (c : Value) (C : Addr) : Prop := ∃ cls, mg cls = some (.ref C) ∧ cat cls = some true
abbrev WW.held (a dx : Addr) : WW := ⟨fun _ _ _ _ => False, fun a' d' => a' = a ∧ d' = dx⟩
theorem pss_no {X : Cx} {st : List Stmt} : PSs X st (fun _ _ _ => False) := ⟨fun _ _ _ _ _ _ h => h.elim⟩
theorem takes_all {X : Cx} {w : WX} {pn : List (Addr × Obj)} : Takes (X.tr pn fun _ _ => True) w := fun _ _ _ => trivial
end
section
variable {X : Cx} {W : WW} {x n : Str} {c : Value} {i : Nat} {body suite : List Stmt} {b₀ : Stmt} {np pos pos' : Pos} {tb : WX → TS} {ts : Addr → Addr → Addr → TS} {g h : Env → AS → SR} {cat : Cat}
theorem pus_try (hs : X.stack = X.env :: X.outer) (hf : X.env.frame = some X.env.locals) (hN : X.N.Nodup) (hi : X.N[i]? = some n) (hln : X.env.kindOf n = some .local) (hc : Names X x c) (tk : Takes X W.w)
    (hcat : ∀ cls C b, cat cls = some b → X.mg cls = some (.ref C) → PySem.W.exmOne X.K (.ref C) c = some b)
    (hb : ∀ (w : WX) (pn : List (Addr × Obj)) (xe : Value → Shared → Prop), Takes (X.tr pn xe) w → PassesOwn (model X.prog X.w) X.A X.env xe → PSs (X.tr pn xe) body (tb w))
    (hbs : ∀ w : WX, SndS X.K X.mg ⟨w, W.xs⟩ (tb w) g)
    (hsu : ∀ (a : Addr) (oe : Obj) (C dx : Addr) (pn : List (Addr × Obj)), Caught X.K X.mg cat c C → Zc (.ref C) (some dx) oe → (∃ vs, oe.data = .fields vs) → PSs (X.suite a ((a, oe) :: pn)) (b₀ :: suite) (ts a C dx))
    (hss : ∀ a C dx : Addr, Caught X.K X.mg cat c C → SndS X.K X.mg (WW.held a dx) (ts a C dx) h) :
    PuS X W (.Try body [.ExceptHandler (some (.Name x np)) (some n) (b₀ :: suite) pos'] [] [] pos) (fun D σ H => tb (wAs X.K c i (tsC (Caught X.K X.mg cat c) ts) W.w D) D σ H) (sTry cat i g h) :=
  ⟨ps_try_as hs hf hN hi hln hc tk hb fun a oe cls d pn hz hd => by
    unfold tsC
    split
    · rename_i C dx
      by_cases q : Caught X.K X.mg cat c C
      · rw [if_pos q]; exact hsu a oe C dx pn q hz hd
      · rw [if_neg q]; exact pss_no
    · exact pss_no, fun B σ δ H S μ A Dn s p => by
    refine hbs _ B σ δ H S μ A Dn s ?_
    unfold sTry at p
    cases eg : g δ A with
    | un => rw [eg] at p; exact p
    | nx δ' A' => rw [eg] at p; exact p
    | bk δ' A' => rw [eg] at p; exact p
    | ct δ' A' => rw [eg] at p; exact p
    | rt d A' => rw [eg] at p; exact p
    | ex e δ1 A1 =>
      rw [eg] at p
      dsimp only at p
      intro C dx σ1 H1 S1 μ1 gr s1 er
      cases ec : cat e.cls with
      | none => rw [ec] at p; exact p.elim
      | some b =>
        rw [ec] at p
        have em := hcat e.cls C b ec er.1
        cases b with
        | false => exact ⟨false, em, ⟨fun z => Bool.noConfusion z, fun _ => p C dx σ1 H1 S1 μ1 gr s1 er⟩⟩
        | true =>
          refine ⟨true, em, ⟨fun _ a hna => ?_, fun z => Bool.noConfusion z⟩⟩
          have hC : Caught X.K X.mg cat c C := ⟨e.cls, er.1, ec⟩
          show (@ite _ (Caught X.K X.mg cat c C) (Classical.propDecidable _) (ts a C dx) (fun _ _ _ => False)) _ _ _
          rw [if_pos hC]
          dsimp only at p
          by_cases hx : noXc δ1 = true
          · rw [if_pos hx] at p
            obtain ⟨_, fs, v, ed, el, rv⟩ := er
            have s2 : StR (WW.held a dx).xs X.K X.mg B (σ1.set i (some (.ref a))) (sset δ1 i (.xc e)) H1 S1 μ1 A1 :=
              (s1.xs_any (xs' := (WW.held a dx).xs) hx).setAny (W := WW.held a dx) ⟨a, dx, fs, v, rfl, ⟨rfl, rfl⟩, ed, s1.wd.noCell ed, el, rv⟩ fun _ z _ => nomatch z
            refine hss a C dx hC B _ _ _ _ _ _ _ s2 ?_
            have fin : ∀ {δ2 : Env} {A2 : AS} {σ3 : L2.St} {H3 S3 : Hp} {μ3 : List Addr}, noXc (sset δ2 i .un) = true → StR (WW.held a dx).xs X.K X.mg B σ3 δ2 H3 S3 μ3 A2 → StR W.xs X.K X.mg B (σ3.set i none) (sset δ2 i .un) H3 S3 μ3 A2 :=
              fun hz s3 => (StR.setUn (W := WW.held a dx) s3).xs_any hz
            cases eh : h (sset δ1 i (.xc e)) A1 with
            | un => rw [eh] at p; exact p
            | ex e' δ2 A2 => rw [eh] at p; exact p.elim
            | rt d A2 => rw [eh] at p; exact fun v H3 S3 μ3 n3 r3 => p v H3 S3 μ3 n3 r3
            | nx δ2 A2 =>
              rw [eh] at p
              dsimp only at p
              by_cases hz : noXc (sset δ2 i .un) = true
              · rw [if_pos hz] at p
                exact fun σ3 H3 S3 μ3 g3 s3 => p _ H3 S3 μ3 (gr.trans g3) (fin hz s3)
              · rw [if_neg hz] at p; exact p.elim
            | bk δ2 A2 =>
              rw [eh] at p
              dsimp only at p
              by_cases hz : noXc (sset δ2 i .un) = true
              · rw [if_pos hz] at p
                exact fun σ3 H3 S3 μ3 g3 s3 => p _ H3 S3 μ3 (gr.trans g3) (fin hz s3)
              · rw [if_neg hz] at p; exact p.elim
            | ct δ2 A2 =>
              rw [eh] at p
              dsimp only at p
              by_cases hz : noXc (sset δ2 i .un) = true
              · rw [if_pos hz] at p
                exact fun σ3 H3 S3 μ3 g3 s3 => p _ H3 S3 μ3 (gr.trans g3) (fin hz s3)
              · rw [if_neg hz] at p; exact p.elim
          · rw [if_neg hx] at p; exact p.elim⟩
/-- e.at in the suite -/
def eAt (i : Nat) : Env → M D := fun δ A => match sget δ i with
  | .xc e => .ok e.val A
  | _ => .un
theorem pu_xat {a C dx : Addr} {oe : Obj} {pn : List (Addr × Obj)} {i : Nat} {x : Str} {p pos : Pos} (T : XfC X.K C) (hno : PySem.W.findIn X.K (.ref C) "at" = some none) (hz : Zc (.ref C) (some dx) oe) (hf : ∃ vs, oe.data = .fields vs)
    (he : PE (X.suite a ((a, oe) :: pn)) (.Name x p) (tVar i)) (hb : attributeBase (.Name x p) "at" X.env (eval (.Name x p) X.env) = eval (.Name x p) X.env := by rfl) :
    PuE (X.suite a ((a, oe) :: pn)) (WW.held a dx) (.Attribute (.Name x p) "at" pos) (tXf a (.ref C) (some dx) C "at" (tVar i)) (eAt i) := ⟨pe_xf T hno hz hf he hb, fun B σ δ H S μ A Q s p => by
  have z := s.sl i
  unfold eAt at p
  generalize sget δ i = y at p z
  cases y with
  | xc e =>
    obtain ⟨a', dx', fs, v, e1, ⟨rfl, rfl⟩, ed, _, el, r⟩ := z
    exact ⟨_, e1, rfl, rfl, _, fs, v, rfl, ed, el, p v H S μ (Nxt.refl s.wd) r⟩
  | _ => exact p.elim⟩
end
end Pv

/-! short words for printed proofs -/
noncomputable section
namespace Pv
open PySem PySem.Spec L2
open PyProof.Rows hiding St

/-- a def of the text by its name: it does what ff tells -/
structure Cal (P : Program) (w : World) (K : PySem.W.Frag) (mg : Str → Option Value) (base : Heap) (k : Nat) (x : Str) (n : Nat) (ff : Fn) : Prop where
  ex : ∃ fad fd ps, FnOk P w K mg base (L2.CX P w) k fad fd ps (spF K mg n ff) ∧ mg x = some (.ref fad) ∧ PySem.W.keepIn K (.ref fad) = true ∧ Binds K fd ps []
/-- a def of the text as it stands -/
structure FunG (K : PySem.W.Frag) (mg : Str → Option Value) (x : Str) (st : Stmt) (ps : List Str) : Prop where
  ex : ∃ f fd, L2.Fun K x x st f fd ∧ mg x = some (.ref f) ∧ Binds K fd ps []
section
variable {P : Program} {w : World} {K : PySem.W.Frag} {mg : Str → Option Value} {base : Heap} {k n : Nat} {x : Str} {ff gg : Fn}
theorem Cal.mono {j : Nat} (c : Cal P w K mg base k x n ff) (h : k ≤ j) : Cal P w K mg base j x n ff := by
  obtain ⟨fad, fd, ps, F, h1, h2, h3⟩ := c.ex
  exact ⟨fad, fd, ps, F.mono h, h1, h2, h3⟩
theorem Cal.fn (c : Cal P w K mg base k x n ff) (e : ∀ ds A, gg ds A ≠ .un → ff ds A = gg ds A) : Cal P w K mg base k x n gg := by
  obtain ⟨fad, fd, ps, F, h1, h2, h3⟩ := c.ex
  exact ⟨fad, fd, ps, Pv.FnOk.fn F e, h1, h2, h3⟩
theorem cal_of {st : Stmt} {N ps : List Str} {g : Env → AS → SR} (F : FunG K mg x st ps) (Sc : FnScope N ps (defScope st))
    (hb : ∀ (f : Addr) (cdv : Value) (A : Around) (outer : List PySem.Env) (s : Shared) (H : Hp) (E : XK), Room k (A.deeper (envOfC x (defScope st) s.heap.objs.size f cdv)) →
      ∃ t, PuSs (cxOf (L2.CX P w) P w K mg base N x (defScope st) f cdv A outer s H E) (WW.ofE E) (defBody st) t g) : Cal P w K mg base (k + 1) x ps.length (runF N.length g) := by
  obtain ⟨f, fd, F, hm, hb2⟩ := F.ex
  exact ⟨f, fd, ps, FnOk.ofBody F Sc (hb f), hm, F.kp, hb2⟩
variable {X : Cx} {W : WW} {es : List Expr} {e : Expr} {tA : TA} {fa : Env → M (List D)} {p pos : Pos}
theorem pu_cal (c : Cal X.prog X.w X.K X.mg X.base k x n ff) (tk : Takes X W.w) (hr : Room k X.A) (ha : PuA X W (e :: es) tA fa) (hg : Gl X x := by rfl)
    (hdb : (x == ("__debug__" : Str)) = false := by decide) (he : starEach (e :: es) X.env = (false, eval e X.env) :: starEach es X.env := by rfl) (hpl : (backTo pos (starEach es X.env)).any (·.1) = false := by rfl) :
    PuE X W (.Call (.Name x p) (e :: es) [] pos) (tCallS (spF X.K X.mg n ff) (WE W.w) tA) (eCall n ff fa) := by
  obtain ⟨fad, fd, ps, F, h1, h2, h3⟩ := c.ex
  exact pu_call tk F hr hg h1 h2 h3 ha hdb he hpl

/-! a, b = x, y -/
structure PuAs (X : Cx) (W : WW) (e : Expr) (te : TE) (a : As) : Prop where
  der : PE X e te
  snd : SndAs X.K X.mg W te a
theorem PuE.pas {te : TE} {f : Env → M D} (h : PuE X W e te f) : PuAs X W e te (.sh f) := ⟨h.der, h.snd⟩
theorem PuF.pas {te : TE} {f : Env → M (List D)} (h : PuF X W e te f) : PuAs X W e te (.ow f) := ⟨h.der, h.snd⟩
theorem pus_par {i j : Nat} {x y : Str} {a b : Expr} {ta tb : TE} {fa fb : As} {px py pt : Pos} {kt k2 pt2} (hc : X.calm = true) (hN : X.N.Nodup) (hi : X.N[i]? = some x) (hj : X.N[j]? = some y) (hij : i ≠ j)
    (hx : X.env.scope.names.lookup x = some .local) (hy : X.env.scope.names.lookup y = some .local) (ha : PuAs X W a ta fa) (hb : PuAs X W b tb fb)
    (hw : swappedStores [.Tuple [.Name x px, .Name y py] kt pt] (.Tuple [a, b] k2 pt2) X.env = pure (some [x, y]))
    (hs : swapsWithSole [.Tuple [.Name x px, .Name y py] kt pt] (.Tuple [a, b] k2 pt2) pos.line X.env = pure false := by rfl)
    (h1 : starEach [a, b] X.env = (false, eval a X.env) :: starEach [b] X.env := by rfl) (h2 : starEach [b] X.env = (false, eval b X.env) :: starEach [] X.env := by rfl) :
    PuS X W (.Assign [.Tuple [.Name x px, .Name y py] kt pt] (.Tuple [a, b] k2 pt2) pos) (tPar i j (tCons ta (tCons tb tNil))) (sPar fa fb i j) :=
  ⟨ps_par hc hN hi hj hij hx hy (pa_cons ha.der (pa_cons hb.der pa_nil h2) h1) hw hs, snd_par ha.snd hb.snd⟩
theorem pus_par3 {i j l : Nat} {x y z : Str} {a b c : Expr} {ta tb tc : TE} {fa fb fc : As} {px py pz pt : Pos} {kt k2 pt2} (hc : X.calm = true) (hN : X.N.Nodup) (hi : X.N[i]? = some x) (hj : X.N[j]? = some y) (hl : X.N[l]? = some z) (hij : i ≠ j) (hil : i ≠ l) (hjl : j ≠ l)
    (hx : X.env.scope.names.lookup x = some .local) (hy : X.env.scope.names.lookup y = some .local) (hz : X.env.scope.names.lookup z = some .local) (ha : PuAs X W a ta fa) (hb : PuAs X W b tb fb) (hcc : PuAs X W c tc fc)
    (hw : swappedStores [.Tuple [.Name x px, .Name y py, .Name z pz] kt pt] (.Tuple [a, b, c] k2 pt2) X.env = pure (some [x, y, z]))
    (hs : swapsWithSole [.Tuple [.Name x px, .Name y py, .Name z pz] kt pt] (.Tuple [a, b, c] k2 pt2) pos.line X.env = pure false := by rfl)
    (h0 : starEach [a, b, c] X.env = (false, eval a X.env) :: starEach [b, c] X.env := by rfl) (h1 : starEach [b, c] X.env = (false, eval b X.env) :: starEach [c] X.env := by rfl) (h2 : starEach [c] X.env = (false, eval c X.env) :: starEach [] X.env := by rfl) :
    PuS X W (.Assign [.Tuple [.Name x px, .Name y py, .Name z pz] kt pt] (.Tuple [a, b, c] k2 pt2) pos) (tPar3 i j l (tCons ta (tCons tb (tCons tc tNil)))) (sPar3 fa fb fc i j l) :=
  ⟨ps_par3 hc hN hi hj hl hij hil hjl hx hy hz (pa_cons ha.der (pa_cons hb.der (pa_cons hcc.der pa_nil h2) h1) h0) hw hs, snd_par3 ha.snd hb.snd hcc.snd⟩

/-! comprehensions: what the block's parts read may hang on the block's frame -/
section
abbrev Bk := Shared × Hp × Addr × List (Str × Addr) × List Addr
abbrev Cx.bk (X : Cx) (scope : Scope) (b : Bk) : Cx := X.blk b.1 b.2.1 scope (compEnvC scope b.2.2.2.1 b.2.2.1 X.env) b.2.2.2.2
def teA (te : Bk → TE) : TE := fun σ H Q => ∀ b, te b σ H Q
def ttA (tt : Bk → TT) : TT := fun σ H Q => ∀ b, tt b σ H Q
def tgA (tg : Bk → TG) : TG := fun v σ H Q => ∀ b, tg b v σ H Q
variable {i : Nat} {y : Str} {py : Pos} {elt tg iter : Expr} {ifs : List Expr} {scope : Scope} {own : List (Str × Nat)} {spos : Pos} {wi : TI} {src : Env → M (List D)} {tgt : D → Env → Option Env} {ft : Env → M Bool} {fe : Env → M D} {ns : List Nat}
theorem lc_e (he : ∀ b : Bk, ∃ te, PuE (Cx.bk X scope b) W.quiet elt te fe) : ∃ te, ∀ b : Bk, PuE (Cx.bk X scope b) W.quiet elt te fe :=
  ⟨teA fun b => (he b).choose, fun b => ⟨⟨fun pins s σ H Q I h => (he b).choose_spec.der.run pins s σ H Q I (h b)⟩, fun B σ δ H S μ A Q s p c => (he c).choose_spec.snd B σ δ H S μ A Q s p⟩⟩
theorem lc_t (ht : ∀ b : Bk, ∃ tt, PuTs (Cx.bk X scope b) W.quiet ifs tt ft) : ∃ tt, ∀ b : Bk, PuTs (Cx.bk X scope b) W.quiet ifs tt ft :=
  ⟨ttA fun b => (ht b).choose, fun b => ⟨⟨fun pins s σ H Q I h => (ht b).choose_spec.der.run pins s σ H Q I (h b)⟩, fun B σ δ H S μ A Q s p c => (ht c).choose_spec.snd B σ δ H S μ A Q s p⟩⟩
theorem lc_g (hg : ∀ b : Bk, ∃ g, PuG (Cx.bk X scope b) tg g tgt ns) : ∃ g, ∀ b : Bk, PuG (Cx.bk X scope b) tg g tgt ns :=
  ⟨tgA fun b => (hg b).choose, fun b => ⟨⟨fun pins s σ H v u Q I r h => (hg b).choose_spec.der.run pins s σ H v u Q I r (h b)⟩, fun W B σ δ H S μ A v d δ' Q s r h k c => (hg c).choose_spec.snd W B σ δ H S μ A v d δ' Q s r h k⟩⟩
theorem pu_lcX (hc : X.calm = true) (hN : X.N.Nodup) (hi : PuI X W tg iter wi src) (ok : BlkOk X.N X.env.scope scope own) (hg : ∀ b : Bk, ∃ g, PuG (Cx.bk X scope b) tg g tgt ns) (hns : ∀ j ∈ ns, j ∈ own.map (·.2))
    (ht : ∀ b : Bk, ∃ tt, PuTs (Cx.bk X scope b) W.quiet ifs tt ft) (he : ∀ b : Bk, ∃ te, PuE (Cx.bk X scope b) W.quiet elt te fe) (s0 : Shared) (hs : ∀ x, foldedSetIterable iter X.env x = pure x := by intro _; rfl) :
    ∃ t, PuF X W (.ListComp elt [⟨tg, iter, ifs, 0⟩] scope pos) t (eLc (own.map (·.2)) src tgt ft fe) := by
  obtain ⟨te, he⟩ := lc_e he
  obtain ⟨tt, ht⟩ := lc_t ht
  obtain ⟨g, hg⟩ := lc_g hg
  exact ⟨_, pu_lcF hc hN hi ok (fun s H C cl fp => hg (s, H, C, cl, fp)) hns (fun s H C cl fp => ht (s, H, C, cl, fp)) (fun s H C cl fp => he (s, H, C, cl, fp)) s0 hs⟩
theorem lcX {hlc : ∃ t, PuF X W e t fa} : PuF X W e hlc.choose fa := hlc.choose_spec
theorem pus_lcX (hc : X.calm = true) (hN : X.N.Nodup) (hy : X.N[i]? = some y) (hyl : X.env.scope.names.lookup y = some .local)
    (hsw : swapsWith (.ListComp elt [⟨tg, iter, ifs, 0⟩] scope pos) (some (.Name y py)) spos.line X.env = pure true) (hi : PuI X W tg iter wi src) (ok : BlkOk X.N X.env.scope scope own) (hg : ∀ b : Bk, ∃ g, PuG (Cx.bk X scope b) tg g tgt ns) (hns : ∀ j ∈ ns, j ∈ own.map (·.2))
    (ht : ∀ b : Bk, ∃ tt, PuTs (Cx.bk X scope b) W.quiet ifs tt ft) (he : ∀ b : Bk, ∃ te, PuE (Cx.bk X scope b) W.quiet elt te fe) (s0 : Shared) (hs : ∀ x, foldedSetIterable iter X.env x = pure x := by intro _; rfl) :
    ∃ t, PS X (.Assign [.Name y py] (.ListComp elt [⟨tg, iter, ifs, 0⟩] scope pos) spos) (tAsg t (gName i)) ∧ PuF X W (.ListComp elt [⟨tg, iter, ifs, 0⟩] scope pos) t (eLc (own.map (·.2)) src tgt ft fe) := by
  obtain ⟨te, he⟩ := lc_e he
  obtain ⟨tt, ht⟩ := lc_t ht
  obtain ⟨g, hg⟩ := lc_g hg
  exact ⟨_, ps_setLc hc hN hy hyl hsw hi.der ok (fun s H C cl fp => (hg (s, H, C, cl, fp)).der) (fun s H C cl fp => (ht (s, H, C, cl, fp)).der) (fun s H C cl fp => (he (s, H, C, cl, fp)).der) hs,
    pu_lcF hc hN hi ok (fun s H C cl fp => hg (s, H, C, cl, fp)) hns (fun s H C cl fp => ht (s, H, C, cl, fp)) (fun s H C cl fp => he (s, H, C, cl, fp)) s0 hs⟩
theorem pus_lc {v : Expr} {f : Env → M (List D)} (h : ∃ t, PS X (.Assign [.Name y py] v spos) (tAsg t (gName i)) ∧ PuF X W v t f) : PuS X W (.Assign [.Name y py] v spos) (tAsg h.choose (gName i)) (sAsg (gN i) (fLst f)) := pus_set h.choose_spec.1 h.choose_spec.2.toE.snd
theorem pus_lcO {v : Expr} {f : Env → M (List D)} (h : ∃ t, PS X (.Assign [.Name y py] v spos) (tAsg t (gName i)) ∧ PuF X W v t f) : PuS X W (.Assign [.Name y py] v spos) (tAsg h.choose (gName i)) (sOwn i f) := pus_own h.choose_spec.1 h.choose_spec.2.snd
end

theorem pus_setL {o i : Expr} {to ti te : TE} {fo fi fe : Pv.Env → M D} {spos : Pos} (he : PuE X W e te fe) (ho : PuE X W o to fo) (hi : PuE X W i ti fi)
    (hs : swapsWithSole [.Subscript o i spos] e pos.line X.env = pure false := by rfl) (hw : swappedStores [.Subscript o i spos] e X.env = pure none := by rfl) (h1 : (assignEach [.Subscript o i spos] X.env).map (·.2) = [assign (.Subscript o i spos) X.env] := by rfl)
    (ha : ∀ v, assign (.Subscript o i spos) X.env v = (do
      let o1 ← holding [v] (eval o X.env)
      let i1 ← holding [v, o1] (eval i X.env)
      standAt spos
      holding [v, o1, i1] (setItem o1 i1 v)
      release [v, o1, i1] []) := by intro _; rfl) :
    PuS X W (.Assign [.Subscript o i spos] e pos) (tAsg te (gSub to ti rSetL)) (sSetIx fo fi fe) := pus_setIx he ho hi (ps_asg he.der (pg_sub ho.der hi.der set_list ha) hs hw h1)

theorem pus_ownE {i : Nat} {y : Str} {pos' : Pos} {f : Pv.Env → M (List D)} {te : TE} (hN : X.N.Nodup) (hi : X.N[i]? = some y) (hx : Loc X.env.scope y) (q : PuF X W e te f) (hs : swapsWith e (some (.Name y pos')) pos.line X.env = pure false := by rfl) (hf : X.fn y = true ∨ X.env.scope.names.lookup y = some .local := by first | exact .inl rfl | exact .inr rfl | assumption) :
    PuS X W (.Assign [.Name y pos'] e pos) (tAsg te (gName i)) (sOwn i f) := pus_own (ps_set hN hi hx q.der hs hf) q.snd
/-! what is never reached -/
def eNo {α : Type} : Pv.Env → M α := fun _ _ => .un
def sNo : Pv.Env → AS → SR := fun _ _ => .un
theorem pu_no : PuE X W e (fun _ _ _ => False) eNo := ⟨⟨fun _ _ _ _ _ _ h => h.elim⟩, fun _ _ _ _ _ _ _ _ _ p => p⟩
theorem pt_no : PuT X W e (fun _ _ _ => False) eNo := ⟨⟨fun _ _ _ _ _ _ h => h.elim⟩, fun _ _ _ _ _ _ _ _ _ p => p⟩
theorem pus_no {st : Stmt} : PuS X W st (fun _ _ _ => False) sNo := ⟨⟨fun _ _ _ _ _ _ h => h.elim⟩, fun _ _ _ _ _ _ _ _ _ p => p⟩

/-! errors -/
/-- the class cls of errors stands at C -/
structure Err (P : Program) (w : World) (K : PySem.W.Frag) (mg : Str → Option Value) (base : Heap) (k : Nat) (cls : Str) (C : Addr) : Prop where
  o : OexC K C
  m : mg cls = some (.ref C)
  i : ∃ fI fd, PySem.W.findIn K (.ref C) "__init__" = some (some (.ref fI)) ∧ PySem.W.typeIn K (.ref fI) = some (.type "function") ∧ FnOk P w K mg base (L2.CX P w) k fI fd ["self", "at"] (spI C) ∧ Binds K fd ["self", "at"] []
theorem Err.mono {P : Program} {w : World} {K : PySem.W.Frag} {mg : Str → Option Value} {base : Heap} {k j : Nat} {cls : Str} {C : Addr} (e : Err P w K mg base k cls C) (h : k ≤ j) : Err P w K mg base j cls C := by
  obtain ⟨fI, fd, h1, h2, h3, h4⟩ := e.i
  exact ⟨e.o, e.m, fI, fd, h1, h2, h3.mono h, h4⟩
theorem pu_err {cls : Str} {C : Addr} (r : Err X.prog X.w X.K X.mg X.base k cls C) (tk : Takes X W.w) (hr : Room (k + 1) X.A) (ha : PuA X W [e] tA fa) (hg : Gl X cls := by rfl)
    (hdb : (cls == ("__debug__" : Str)) = false := by decide) (he : starEach (e :: []) X.env = (false, eval e X.env) :: starEach [] X.env := by rfl) (hpl : (backTo pos (starEach [] X.env)).any (·.1) = false := by rfl) :
    PuMk X W (.Call (.Name cls p) [e] [] pos) (tMkO C (spI C) [] tA) (eMk cls fa) := by
  obtain ⟨fI, fd, h1, h2, h3, h4⟩ := r.i
  exact pumk_own r.o h1 h2 h3 hr h4 tk hg r.m ha hdb he hpl
/-- what a clause catches -/
structure Catch (K : PySem.W.Frag) (mg : Str → Option Value) (cat : Cat) (c : Value) : Prop where
  all : ∀ cls C b, cat cls = some b → mg cls = some (.ref C) → PySem.W.exmOne K (.ref C) c = some b
  xf : ∀ C, Caught K mg cat c C → XfC K C ∧ PySem.W.findIn K (.ref C) "at" = some none
theorem pus_try1 {x n : Str} {c : Value} {i : Nat} {body suite : List Stmt} {b₀ : Stmt} {np pos' : Pos} {g h : Pv.Env → AS → SR} {cat : Cat} (ct : Catch X.K X.mg cat c)
    (hs : X.stack = X.env :: X.outer) (hf : X.env.frame = some X.env.locals) (hN : X.N.Nodup) (hi : X.N[i]? = some n) (hln : X.env.kindOf n = some .local) (hc : Names X x c) (tk : Takes X W.w)
    (hb : ∀ (w : WX) (pn : List (Addr × Obj)) (xe : Value → Shared → Prop), Takes (X.tr pn xe) w → ∃ t, PuSs (X.tr pn xe) ⟨w, W.xs⟩ body t g)
    (hsu : ∀ (a : Addr) (oe : Obj) (C dx : Addr) (pn : List (Addr × Obj)), XfC X.K C → PySem.W.findIn X.K (.ref C) "at" = some none → Zc (.ref C) (some dx) oe → (∃ vs, oe.data = .fields vs) → ∃ t, PuSs (X.suite a ((a, oe) :: pn)) (WW.held a dx) (b₀ :: suite) t h) :
    ∃ t, PuS X W (.Try body [.ExceptHandler (some (.Name x np)) (some n) (b₀ :: suite) pos'] [] [] pos) t (sTry cat i g h) := by
  let tb : WX → TS := fun w D σ H => ∀ pn xe tk, (hb w pn xe tk).choose D σ H
  let ts : Addr → Addr → Addr → TS := fun a C dx D σ H => ∀ oe pn xf fi hz hd, (hsu a oe C dx pn xf fi hz hd).choose D σ H
  refine ⟨_, pus_try (tb := tb) (ts := ts) hs hf hN hi hln hc tk ct.all (fun w pn xe t _ => ⟨fun pins s σ H D I q => (hb w pn xe t).choose_spec.der.run pins s σ H D I (q pn xe t)⟩)
    (fun w B σ δ H S μ A Dn s p pn xe t => (hb w pn xe t).choose_spec.snd B σ δ H S μ A Dn s p)
    (fun a oe C dx pn hC hz hd => ⟨fun pins s σ H D I q => (hsu a oe C dx pn (ct.xf C hC).1 (ct.xf C hC).2 hz hd).choose_spec.der.run pins s σ H D I (q oe pn (ct.xf C hC).1 (ct.xf C hC).2 hz hd)⟩)
    fun a C dx hC B σ δ H S μ A Dn s p oe pn xf fi hz hd => (hsu a oe C dx pn xf fi hz hd).choose_spec.snd B σ δ H S μ A Dn s p⟩
theorem exS {st : Stmt} {g : Pv.Env → AS → SR} {h : ∃ t, PuS X W st t g} : PuS X W st h.choose g := h.choose_spec
end
/-! the built-ins by their names -/
theorem bt_len : bootBuiltins "len" = some (.builtin "len") := PyProof.Rows.Boot.«len»
theorem bt_sum : bootBuiltins "sum" = some (.builtin "sum") := PyProof.Rows.Boot.«sum»
theorem bt_max : bootBuiltins "max" = some (.builtin "max") := PyProof.Rows.Boot.«max»
theorem bt_min : bootBuiltins "min" = some (.builtin "min") := PyProof.Rows.Boot.«min»
theorem bt_all : bootBuiltins "all" = some (.builtin "all") := PyProof.Rows.Boot.«all»
theorem bt_any : bootBuiltins "any" = some (.builtin "any") := PyProof.Rows.Boot.«any»
theorem bt_abs : bootBuiltins "abs" = some (.builtin "abs") := PyProof.Rows.Boot.«abs»
theorem bt_isinstance : bootBuiltins "isinstance" = some (.builtin "isinstance") := PyProof.Rows.Boot.«isinstance»
theorem bt_sorted : bootBuiltins "sorted" = some (.builtin "sorted") := PyProof.Rows.Boot.«sorted»
theorem bt_int : bootBuiltins "int" = some (.type "int") := PyProof.Rows.Boot.«int»
theorem bt_str : bootBuiltins "str" = some (.type "str") := PyProof.Rows.Boot.«str»
theorem bt_list : bootBuiltins "list" = some (.type "list") := PyProof.Rows.Boot.«list»
theorem bt_tuple : bootBuiltins "tuple" = some (.type "tuple") := PyProof.Rows.Boot.«tuple»
theorem bt_bool : bootBuiltins "bool" = some (.type "bool") := PyProof.Rows.Boot.«bool»
theorem bt_dict : bootBuiltins "dict" = some (.type "dict") := PyProof.Rows.Boot.«dict»
theorem rlen {X : Cx} : CallR X (.builtin "len") (rLenX X.K) := call_len
theorem rlist {X : Cx} : CallR X (.type "list") (rListS2 X.K) := call_list_of
theorem rtuple {X : Cx} : CallR X (.type "tuple") (rTupS2 X.K) := call_tuple_of
theorem hu65 {A : Around} {k : Nat} (hr : Room (k + 1) A) : A.units + 65 < cLine := by have := hr.un; omega
end Pv

/-! running the meanings: each word by its definition -/
noncomputable section
namespace Pv
open PySem PySem.Spec
section
variable {α β : Type} {δ : Env} {A A' : AS} {i j l n : Nat} {f g h k : Env → M D} {x y : Sl} {c c' : Env → M Bool} {fa ga : Env → M (List D)} {d e : D} {xs ys : List D} {p q r : Env → AS → SR}
@[simp] theorem sget_0 : sget (x :: δ) 0 = x := (rfl)
@[simp] theorem sget_s : sget (x :: δ) (n + 1) = sget δ n := (rfl)
@[simp] theorem sset_0 : sset (x :: δ) 0 y = y :: δ := (rfl)
@[simp] theorem sset_s : sset (x :: δ) (n + 1) y = x :: sset δ n y := (rfl)
@[simp] theorem onE_ok' {a : α} {kk : α → AS → SR} : onE (.ok a A) δ kk = kk a A := (rfl)
@[simp] theorem onE_un' {kk : α → AS → SR} : onE (.un : R α) δ kk = .un := (rfl)
@[simp] theorem onE_ex' {kk : α → AS → SR} {e : Exc} : onE (.ex e A : R α) δ kk = .ex e δ A := (rfl)
theorem bind_c {r r' : R α} {kk : α → AS → R β} (h : r = r') : r.bind kk = r'.bind kk := by rw [h]
theorem onE_c {r r' : R α} {δ' : Env} {kk : α → AS → SR} (h : r = r') (h2 : δ = δ') : onE r δ kk = onE r' δ' kk := by rw [h, h2]
def thenS (r : SR) (q : Env → AS → SR) : SR := match r with
  | .nx δ A => q δ A
  | r => r
theorem thenS_c {r r' : SR} {qq : Env → AS → SR} (h : r = r') : thenS r qq = thenS r' qq := by rw [h]
@[simp] theorem thenS_nx {qq : Env → AS → SR} : thenS (.nx δ A) qq = qq δ A := (rfl)
@[simp] theorem thenS_rt {qq : Env → AS → SR} : thenS (.rt d A) qq = .rt d A := (rfl)
@[simp] theorem thenS_un {qq : Env → AS → SR} : thenS .un qq = .un := (rfl)
@[simp] theorem thenS_bk {qq : Env → AS → SR} : thenS (.bk δ A) qq = .bk δ A := (rfl)
@[simp] theorem thenS_ct {qq : Env → AS → SR} : thenS (.ct δ A) qq = .ct δ A := (rfl)
@[simp] theorem thenS_ex {qq : Env → AS → SR} {e : Exc} : thenS (.ex e δ A) qq = .ex e δ A := (rfl)
@[simp] theorem eVar_d : eVar i δ A = match sget δ i with | .sh d => .ok d A | _ => .un := by unfold eVar; rfl
@[simp] theorem eBor_d : eBor i δ A = match sget δ i with | .sh d => .ok d A | .ow xs => .ok (.lst xs) A | .od kvs => .ok (.dic kvs) A | _ => .un := by unfold eBor; rfl
@[simp] theorem eC_d : eC d δ A = .ok d A := (rfl)
@[simp] theorem eBin_d {o : D → D → M D} : eBin o f g δ A = (f δ A).bind fun x A1 => (g δ A1).bind fun y A2 => o x y A2 := (rfl)
@[simp] theorem eBinF_d {o : D → D → M (List D)} : eBinF o f g δ A = (f δ A).bind fun x A1 => (g δ A1).bind fun y A2 => o x y A2 := (rfl)
@[simp] theorem eUn_d {o : D → M D} : eUn o f δ A = (f δ A).bind fun x A1 => o x A1 := (rfl)
@[simp] theorem tst_d : tst f δ A = (f δ A).bind fun d A1 => match d with | .bl k => .ok k A1 | _ => .un := by unfold tst; rfl
@[simp] theorem cAnd_d : cAnd c c' δ A = (c δ A).bind fun x A1 => if x = true then c' δ A1 else .ok false A1 := (rfl)
@[simp] theorem cOr_d : cOr c c' δ A = (c δ A).bind fun x A1 => if x = true then .ok true A1 else c' δ A1 := (rfl)
@[simp] theorem cNot_d : cNot c δ A = (c δ A).bind fun x A1 => .ok (!x) A1 := (rfl)
@[simp] theorem eAnd_d : eAnd f g δ A = (f δ A).bind fun x A1 => match x with | .bl true => g δ A1 | .bl false => .ok (.bl false) A1 | _ => .un := by unfold eAnd; rfl
@[simp] theorem eOr_d : eOr f g δ A = (f δ A).bind fun x A1 => match x with | .bl true => .ok (.bl true) A1 | .bl false => g δ A1 | _ => .un := by unfold eOr; rfl
@[simp] theorem eNot_d : eNot f δ A = (f δ A).bind fun x A1 => match x with | .bl b => .ok (.bl (!b)) A1 | _ => .un := by unfold eNot; rfl
@[simp] theorem eIf_d : eIf c f g δ A = (c δ A).bind fun x A1 => if x = true then f δ A1 else g δ A1 := (rfl)
@[simp] theorem aNil_d : aNil δ A = .ok [] A := (rfl)
@[simp] theorem aCons_d : aCons f fa δ A = (f δ A).bind fun x A1 => (fa δ A1).bind fun xs A2 => .ok (x :: xs) A2 := (rfl)
@[simp] theorem eTup_d : eTup fa δ A = (fa δ A).bind fun ds A1 => if szOk ds.length = true then .ok (.tup ds) A1 else .un := (rfl)
@[simp] theorem eLst_d : eLst fa δ A = (fa δ A).bind fun ds A1 => if szOk ds.length = true then .ok ds A1 else .un := (rfl)
@[simp] theorem fLst_d : fLst fa δ A = (fa δ A).bind fun ds A1 => .ok (.lst ds) A1 := (rfl)
@[simp] theorem eCell_d : eCell fa δ A = (fa δ A).bind fun ds A1 => .ok (.ref A1.length) (A1 ++ [.lst ds]) := (rfl)
@[simp] theorem eB_d {o : List D → M D} : eB o fa δ A = (fa δ A).bind fun ds A1 => o ds A1 := (rfl)
@[simp] theorem eBF_d {o : List D → M (List D)} : eBF o fa δ A = (fa δ A).bind fun ds A1 => o ds A1 := (rfl)
@[simp] theorem eCall_d {ff : Fn} : eCall n ff fa δ A = (fa δ A).bind fun ds A1 => if ds.length = n then ff ds A1 else .un := (rfl)
@[simp] theorem one_d {o : D → M D} : one o [d] A = o d A := (rfl)
@[simp] theorem oneF_d {o : D → M (List D)} : oneF o [d] A = o d A := (rfl)
@[simp] theorem oNo_d : oNo δ A = .ok none A := (rfl)
@[simp] theorem oSome_d : oSome f δ A = (f δ A).bind fun x A1 => match x with | .int i => .ok (some i) A1 | _ => .un := by unfold oSome; rfl
@[simp] theorem eSl_d {lo hi : Env → M (Option Int)} : eSl f lo hi δ A = (f δ A).bind fun x A1 => (lo δ A1).bind fun l A2 => (hi δ A2).bind fun u A3 => slD x l u A3 := (rfl)
@[simp] theorem eSlF_d {lo hi : Env → M (Option Int)} : eSlF f lo hi δ A = (f δ A).bind fun x A1 => (lo δ A1).bind fun l A2 => (hi δ A2).bind fun u A3 => slF x l u A3 := (rfl)
@[simp] theorem eAt_d : eAt i δ A = match sget δ i with | .xc e => .ok e.val A | _ => .un := by unfold eAt; rfl
@[simp] theorem cYes_d : cYes δ A = .ok true A := (rfl)
@[simp] theorem eNo_d : (eNo δ A : R α) = .un := (rfl)
@[simp] theorem sNo_d : sNo δ A = .un := (rfl)
@[simp] theorem wSeq_lst {ff : Env → M D} (h : ff δ A = .ok (.lst xs) A') : wSeq ff δ A = .ok xs A' := by unfold wSeq; rw [h]; rfl
@[simp] theorem wSeq_tup {ff : Env → M D} (h : ff δ A = .ok (.tup xs) A') : wSeq ff δ A = .ok xs A' := by unfold wSeq; rw [h]; rfl
@[simp] theorem gN_d : gN i d δ = some (sset δ i (.sh d)) := (rfl)
@[simp] theorem gsNil_d : gsNil [] δ = some δ := (rfl)
@[simp] theorem sNx_d : sNx δ A = .nx δ A := (rfl)
@[simp] theorem sBk_d : sBk δ A = .bk δ A := (rfl)
@[simp] theorem sCt_d : sCt δ A = .ct δ A := (rfl)
@[simp] theorem sSeq_d : sSeq p q δ A = thenS (p δ A) q := by unfold sSeq thenS; cases p δ A <;> rfl
@[simp] theorem sRet_d : sRet f δ A = onE (f δ A) δ fun d A1 => .rt d A1 := (rfl)
@[simp] theorem sRetN_d : sRetN δ A = .rt .non A := (rfl)
@[simp] theorem sExp_d : sExp f δ A = onE (f δ A) δ fun _ A1 => .nx δ A1 := (rfl)
@[simp] theorem sIf_d : sIf c p q δ A = onE (c δ A) δ fun b A1 => if b = true then p δ A1 else q δ A1 := (rfl)
@[simp] theorem sAsg_d {tg : D → Env → Option Env} : sAsg tg f δ A = onE (f δ A) δ fun d A1 => match tg d δ with | some δ' => .nx δ' A1 | none => .un := by unfold sAsg; rfl
@[simp] theorem sOwn_d : sOwn i fa δ A = onE (fa δ A) δ fun ds A1 => .nx (sset δ i (.ow ds)) A1 := (rfl)
@[simp] theorem asE_sh : asE (.sh f) δ A = (f δ A).bind fun d A1 => .ok (.sh d) A1 := (rfl)
@[simp] theorem asE_ow : asE (.ow fa) δ A = (fa δ A).bind fun d A1 => .ok (.ow d) A1 := (rfl)
@[simp] theorem sPar_d {a b : As} : sPar a b i j δ A = onE (asE a δ A) δ fun x A1 => onE (asE b δ A1) δ fun y A2 => .nx (sset (sset δ i x) j y) A2 := (rfl)
@[simp] theorem sPar3_d {a b c : As} : sPar3 a b c i j l δ A = onE (asE a δ A) δ fun x A1 => onE (asE b δ A1) δ fun y A2 => onE (asE c δ A2) δ fun z A3 => .nx (sset (sset (sset δ i x) j y) l z) A3 := (rfl)
@[simp] theorem sRaise_d {fe : Env → M Exc} : sRaise fe δ A = match fe δ A with | .ok e A' => .ex e δ A' | _ => .un := by unfold sRaise; rfl
@[simp] theorem eMk_d {cls : Str} : eMk cls fa δ A = match fa δ A with | .ok [d] A1 => .ok ⟨cls, d⟩ A1 | _ => .un := by unfold eMk; rfl
@[simp] theorem sFrz_d : sFrz i p δ A = p (frz i δ) A := (rfl)
@[simp] theorem frz_d : frz i δ = match sget δ i with | .ow xs => sset δ i (.sh (.lst xs)) | .od kvs => sset δ i (.sh (.dic kvs)) | _ => δ := by unfold frz; rfl
@[simp] theorem add_ii {a b : Int} : addD (.int a) (.int b) A = .ok (.int (a + b)) A := (rfl)
@[simp] theorem sub_ii {a b : Int} : subD (.int a) (.int b) A = .ok (.int (a - b)) A := (rfl)
@[simp] theorem sub_bb {a b : Bool} : subD (.bl a) (.bl b) A = .ok (.int (PyProof.Rows.b2i a - PyProof.Rows.b2i b)) A := (rfl)
@[simp] theorem neg_i {a : Int} : negD (.int a) A = .ok (.int (-a)) A := (rfl)
@[simp] theorem lt_ii {a b : Int} : ltD (.int a) (.int b) A = .ok (.bl (decide (a < b))) A := (rfl)
@[simp] theorem le_ii {a b : Int} : leD (.int a) (.int b) A = .ok (.bl (decide (a ≤ b))) A := (rfl)
@[simp] theorem gt_ii {a b : Int} : gtD (.int a) (.int b) A = .ok (.bl (decide (b < a))) A := (rfl)
@[simp] theorem ge_ii {a b : Int} : geD (.int a) (.int b) A = .ok (.bl (decide (b ≤ a))) A := (rfl)
@[simp] theorem mod_ii {a b : Int} : modD (.int a) (.int b) A = if decide (0 < b) = true then .ok (.int (a % b)) A else .un := (rfl)
@[simp] theorem fdiv_ii {a b : Int} : fdivD (.int a) (.int b) A = if divOk b = true then .ok (.int (a / b)) A else .un := (rfl)
@[simp] theorem mul_ii {a b : Int} : mulD (.int a) (.int b) A = if mulOk a b = true then .ok (.int (a * b)) A else .un := (rfl)
@[simp] theorem abs_i {a : Int} : absOne (.int a) A = .ok (.int (if a < 0 then -a else a)) A := (rfl)
@[simp] theorem int_i {a : Int} : intOne (.int a) A = .ok (.int a) A := (rfl)
@[simp] theorem max_ii {a b : Int} : maxD [.int a, .int b] A = .ok (.int (if b > a then b else a)) A := (rfl)
@[simp] theorem min_ii {a b : Int} : minD [.int a, .int b] A = .ok (.int (if b < a then b else a)) A := (rfl)
@[simp] theorem len_lst : lenOne (.lst xs) A = .ok (.int xs.length) A := (rfl)
@[simp] theorem len_tup : lenOne (.tup xs) A = .ok (.int xs.length) A := (rfl)
@[simp] theorem isN_non : isN d .non A = .ok (.bl (isNonD d)) A := by cases d <;> rfl
@[simp] theorem notN_non : notN d .non A = .ok (.bl (!isNonD d)) A := by cases d <;> rfl
@[simp] theorem isNonD_non : isNonD .non = true := (rfl)
theorem eqD_flat {x y : D} (h : (flatD x && flatD y) = true) : eqD x y A = .ok (.bl (PyData.eqv x.py y.py)) A := if_pos h
theorem neD_flat {x y : D} (h : (flatD x && flatD y) = true) : neD x y A = .ok (.bl (!PyData.eqv x.py y.py)) A := if_pos h
@[simp] theorem eq_ii {a b : Int} : eqD (.int a) (.int b) A = .ok (.bl (decide (a = b))) A := by
  rw [eqD_flat rfl, show PyData.eqv (D.py (.int a)) (D.py (.int b)) = decide (a = b) from by
    simp [D.py, PyData.eqv]
    exact (Bool.beq_eq_decide_eq a b)]
@[simp] theorem ne_ii {a b : Int} : neD (.int a) (.int b) A = .ok (.bl (!decide (a = b))) A := by
  rw [neD_flat rfl, show PyData.eqv (D.py (.int a)) (D.py (.int b)) = decide (a = b) from by
    simp [D.py, PyData.eqv]
    exact (Bool.beq_eq_decide_eq a b)]
@[simp] theorem isi_tup {T : String} : isiD T (.tup xs) A = .ok (.bl (isiB "tuple" T)) A := (rfl)
@[simp] theorem isi_int {T : String} {a : Int} : isiD T (.int a) A = .ok (.bl (isiB "int" T)) A := (rfl)
@[simp] theorem isi_bl {T : String} {a : Bool} : isiD T (.bl a) A = .ok (.bl (isiB "bool" T)) A := (rfl)
@[simp] theorem isi_str {T : String} {a : Str} : isiD T (.str a) A = .ok (.bl (isiB "str" T)) A := (rfl)
@[simp] theorem isi_lst {T : String} : isiD T (.lst xs) A = .ok (.bl (isiB "list" T)) A := (rfl)
@[simp] theorem isi_non {T : String} : isiD T .non A = .ok (.bl (isiB "NoneType" T)) A := (rfl)
theorem szOk_of {n : Nat} (h : n ≤ 16777216) : szOk n = true := @decide_eq_true _ (Classical.propDecidable _) h
theorem runF_d {m : Nat} {gg : Env → AS → SR} {ds : List D} : runF m gg ds A = match gg (ds.map Sl.sh ++ List.replicate (m - ds.length) Sl.un) A with | .nx _ A' => .ok .non A' | .rt d A' => .ok d A' | .ex e _ A' => .ex e A' | _ => .un := by unfold runF startE; rfl
@[simp] theorem gT_tup {b : List D → Env → Option Env} : gT n b (.tup xs) δ = if xs.length = n then b xs δ else none := (rfl)
@[simp] theorem gsCons_d {a : D → Env → Option Env} {b : List D → Env → Option Env} : gsCons a b (d :: xs) δ = (a d δ).bind fun δ' => b xs δ' := (rfl)
@[simp] theorem ix_tup {kk : Int} : ixD (.tup xs) (.int kk) A = match L2.atI xs kk with | some v => .ok v A | none => .un := by unfold ixD; rfl
@[simp] theorem ix_lst {kk : Int} : ixD (.lst xs) (.int kk) A = match L2.atI xs kk with | some v => .ok v A | none => .un := by unfold ixD; rfl
@[simp] theorem at0 {a : D} : L2.atI (a :: xs) 0 = some a := L2.atI_nat (j := 0) rfl
@[simp] theorem at1 {a b : D} : L2.atI (a :: b :: xs) 1 = some b := L2.atI_nat (j := 1) rfl
@[simp] theorem at2 {a b c : D} : L2.atI (a :: b :: c :: xs) 2 = some c := L2.atI_nat (j := 2) rfl
@[simp] theorem at3 {a b c e : D} : L2.atI (a :: b :: c :: e :: xs) 3 = some e := L2.atI_nat (j := 3) rfl
@[simp] theorem szOk_d {m : Nat} : szOk m = decide (m ≤ 16777216) := by
  unfold szOk
  exact decide_eq_decide.mpr Iff.rfl
@[simp] theorem ix_ref0 {kk : Int} {B : AS} : ixD (.ref 0) (.int kk) (.lst xs :: B) = match L2.atI xs kk with | some v => .ok v (.lst xs :: B) | none => .un := by unfold ixD; rfl
@[simp] theorem setIx_d {fo fi fe : Env → M D} : sSetIx fo fi fe δ A = onE (fe δ A) δ fun d A1 => onE (fo δ A1) δ fun o A2 => onE (fi δ A2) δ fun k A3 => match o, k with
  | .ref n, .int k => match A3[n]? with
    | some (.lst xs) => match L2.ixN xs.length k with
      | some j => .nx δ (A3.set n (.lst (xs.set j d)))
      | none => .un
    | _ => .un
  | _, _ => .un := by unfold sSetIx; rfl
@[simp] theorem ixN40 : L2.ixN 4 0 = some 0 := (rfl)
@[simp] theorem ixN41 : L2.ixN 4 1 = some 1 := (rfl)
@[simp] theorem ixN42 : L2.ixN 4 2 = some 2 := (rfl)
@[simp] theorem ixN43 : L2.ixN 4 3 = some 3 := (rfl)
/-! comprehensions whose parts are plain functions -/
theorem lcN_ok {tgt : D → Env → Option Env} {tt : Env → M Bool} {el : Env → M D} {P : D → Bool} {F : D → D} : ∀ {ds acc : List D}, (∀ d ∈ ds, ∃ δ1, tgt d δ = some δ1 ∧ tt δ1 A = .ok (P d) A ∧ (P d = true → el δ1 A = .ok (F d) A)) → acc.length + ds.length ≤ 16777216 →
    lcN tgt tt el δ ds acc A = .ok (acc ++ (ds.filter P).map F) A
  | [], acc, _, _ => by simp [lcN]
  | d :: ds, acc, h, hl => by
    obtain ⟨δ1, h1, h2, h3⟩ := h d List.mem_cons_self
    have hl' : acc.length + 1 + ds.length ≤ 16777216 := by simpa [Nat.add_assoc, Nat.add_comm 1] using hl
    unfold lcN
    rw [h1]
    dsimp only
    rw [h2]
    simp only [R.noex_ok, R.bind_ok]
    cases hp : P d with
    | false =>
      rw [if_neg Bool.false_ne_true, lcN_ok (fun d hd => h d (List.mem_cons_of_mem _ hd)) (by omega)]
      simp [hp]
    | true =>
      rw [if_pos rfl, h3 hp]
      simp only [R.noex_ok, R.bind_ok]
      rw [if_pos (szOk_of (by omega)), lcN_ok (fun d hd => h d (List.mem_cons_of_mem _ hd)) (by simpa using hl')]
      simp [hp]
theorem eLc_ok {vs : List Nat} {src : Env → M (List D)} {tgt : D → Env → Option Env} {tt : Env → M Bool} {el : Env → M D} {P : D → Bool} {F : D → D} {ds : List D} (hs : src δ A = .ok ds A') (hl : ds.length ≤ 16777216)
    (h : ∀ d ∈ ds, ∃ δ1, tgt d (wipeE δ vs) = some δ1 ∧ tt δ1 A' = .ok (P d) A' ∧ (P d = true → el δ1 A' = .ok (F d) A')) : eLc vs src tgt tt el δ A = .ok ((ds.filter P).map F) A' := by
  unfold eLc
  rw [hs]
  simp only [R.bind_ok]
  rw [lcN_ok h (by simpa using hl)]
  rfl
/-- all of them -/
theorem eLc_map {vs : List Nat} {src : Env → M (List D)} {tgt : D → Env → Option Env} {el : Env → M D} {F : D → D} {ds : List D} (hs : src δ A = .ok ds A') (hl : ds.length ≤ 16777216)
    (h : ∀ d ∈ ds, ∃ δ1, tgt d (wipeE δ vs) = some δ1 ∧ el δ1 A' = .ok (F d) A') : eLc vs src tgt cYes el δ A = .ok (ds.map F) A' := by
  rw [eLc_ok (P := fun _ => true) (F := F) hs hl fun d hd => ?_]
  · congr 1
    rw [List.filter_eq_self.mpr fun _ _ => rfl]
  · obtain ⟨δ1, h1, h2⟩ := h d hd
    exact ⟨δ1, h1, rfl, fun _ => h2⟩
/-- .. by what the items stand for -/
theorem lcN_of {γ : Type} {tgt : D → Env → Option Env} {tt : Env → M Bool} {el : Env → M D} {P : γ → Bool} {F G : γ → D} : ∀ {l : List γ} {acc : List D}, (∀ a ∈ l, ∃ δ1, tgt (F a) δ = some δ1 ∧ tt δ1 A = .ok (P a) A ∧ (P a = true → el δ1 A = .ok (G a) A)) → acc.length + l.length ≤ 16777216 →
    lcN tgt tt el δ (l.map F) acc A = .ok (acc ++ (l.filter P).map G) A
  | [], acc, _, _ => by simp [lcN]
  | d :: ds, acc, h, hl => by
    obtain ⟨δ1, h1, h2, h3⟩ := h d List.mem_cons_self
    have hl' : acc.length + 1 + ds.length ≤ 16777216 := by simpa [Nat.add_assoc, Nat.add_comm 1] using hl
    rw [List.map_cons]
    unfold lcN
    rw [h1]
    dsimp only
    rw [h2]
    simp only [R.noex_ok, R.bind_ok]
    cases hp : P d with
    | false =>
      rw [if_neg Bool.false_ne_true, lcN_of (fun d hd => h d (List.mem_cons_of_mem _ hd)) (by omega)]
      simp [hp]
    | true =>
      rw [if_pos rfl, h3 hp]
      simp only [R.noex_ok, R.bind_ok]
      rw [if_pos (szOk_of (by omega)), lcN_of (fun d hd => h d (List.mem_cons_of_mem _ hd)) (by simpa using hl')]
      simp [hp]
theorem eLc_of {γ : Type} {vs : List Nat} {src : Env → M (List D)} {tgt : D → Env → Option Env} {tt : Env → M Bool} {el : Env → M D} {P : γ → Bool} {F G : γ → D} {l : List γ} (hs : src δ A = .ok (l.map F) A') (hl : l.length ≤ 16777216)
    (h : ∀ a ∈ l, ∃ δ1, tgt (F a) (wipeE δ vs) = some δ1 ∧ tt δ1 A' = .ok (P a) A' ∧ (P a = true → el δ1 A' = .ok (G a) A')) : eLc vs src tgt tt el δ A = .ok ((l.filter P).map G) A' := by
  unfold eLc
  rw [hs]
  simp only [R.bind_ok]
  rw [lcN_of h (by simpa using hl)]
  rfl
theorem eLc_mapOf {γ : Type} {vs : List Nat} {src : Env → M (List D)} {tgt : D → Env → Option Env} {el : Env → M D} {F G : γ → D} {l : List γ} (hs : src δ A = .ok (l.map F) A') (hl : l.length ≤ 16777216)
    (h : ∀ a ∈ l, ∃ δ1, tgt (F a) (wipeE δ vs) = some δ1 ∧ el δ1 A' = .ok (G a) A') : eLc vs src tgt cYes el δ A = .ok (l.map G) A' := by
  rw [eLc_of (P := fun _ => true) (F := F) (G := G) hs hl fun d hd => ?_]
  · congr 1
    rw [List.filter_eq_self.mpr fun _ _ => rfl]
  · obtain ⟨δ1, h1, h2⟩ := h d hd
    exact ⟨δ1, h1, rfl, fun _ => h2⟩
/-- with cells that change: each part by its own step -/
theorem lcN_step {tgt : D → Env → Option Env} {el : Env → M D} {I : Nat → List D → AS → Prop} {ds : List D} (hz : ds.length ≤ 16777216)
    (h : ∀ k acc A d, ds[k]? = some d → I k acc A → ∃ δ1 y A', tgt d δ = some δ1 ∧ el δ1 A = .ok y A' ∧ I (k + 1) (acc ++ [y]) A') :
    ∀ (k : Nat) (acc : List D) (A : AS), acc.length = k → k ≤ ds.length → I k acc A → ∃ acc' A', lcN tgt cYes el δ (ds.drop k) acc A = .ok acc' A' ∧ I ds.length acc' A' := by
  intro k
  induction hk : ds.length - k generalizing k with
  | zero =>
    intro acc A hl hle hI
    have e : k = ds.length := by omega
    subst e
    refine ⟨acc, A, ?_, hI⟩
    rw [List.drop_length]
    rfl
  | succ m ih =>
    intro acc A hl hle hI
    have hlt : k < ds.length := by omega
    obtain ⟨δ1, y, A', h1, h2, h3⟩ := h k acc A ds[k] (List.getElem?_eq_getElem hlt) hI
    obtain ⟨acc', A2, e, hJ⟩ := ih (k + 1) (by omega) (acc ++ [y]) A' (by simp [hl]) (by omega) h3
    refine ⟨acc', A2, ?_, hJ⟩
    rw [List.drop_eq_getElem_cons hlt]
    unfold lcN
    rw [h1]
    simp only [cYes_d, R.noex_ok, R.bind_ok, if_pos, h2]
    rw [if_pos (szOk_of (by omega))]
    exact e
theorem eLc_step {vs : List Nat} {src : Env → M (List D)} {tgt : D → Env → Option Env} {el : Env → M D} {I : Nat → List D → AS → Prop} {ds : List D} (hs : src δ A = .ok ds A') (hz : ds.length ≤ 16777216) (h0 : I 0 [] A')
    (h : ∀ k acc A d, ds[k]? = some d → I k acc A → ∃ δ1 y A', tgt d (wipeE δ vs) = some δ1 ∧ el δ1 A = .ok y A' ∧ I (k + 1) (acc ++ [y]) A') : ∃ acc A2, eLc vs src tgt cYes el δ A = .ok acc A2 ∧ I ds.length acc A2 := by
  obtain ⟨acc, A2, e, hI⟩ := lcN_step hz h 0 [] A' rfl (Nat.zero_le _) h0
  refine ⟨acc, A2, ?_, hI⟩
  unfold eLc
  rw [hs]
  exact e
/-! loops -/
theorem forL_inv {tgt : D → Env → Option Env} {body : Env → AS → SR} {I : Nat → Env → AS → Prop} {ds : List D}
    (h : ∀ k δ A d, ds[k]? = some d → I k δ A → ∃ δ1 δ2 A2, tgt d δ = some δ1 ∧ (body δ1 A = .nx δ2 A2 ∨ body δ1 A = .ct δ2 A2) ∧ I (k + 1) δ2 A2) :
    ∀ (k : Nat) (δ : Env) (A : AS), k ≤ ds.length → I k δ A → ∃ δ' A', forL tgt body (ds.drop k) δ A = .nx δ' A' ∧ I ds.length δ' A' := by
  intro k
  induction hk : ds.length - k generalizing k with
  | zero =>
    intro δ A hle hI
    have e : k = ds.length := by omega
    subst e
    refine ⟨δ, A, ?_, hI⟩
    rw [List.drop_length]
    rfl
  | succ m ih =>
    intro δ A hle hI
    have hlt : k < ds.length := by omega
    obtain ⟨δ1, δ2, A2, h1, h2, h3⟩ := h k δ A ds[k] (List.getElem?_eq_getElem hlt) hI
    obtain ⟨δ', A', e, hJ⟩ := ih (k + 1) (by omega) δ2 A2 (by omega) h3
    refine ⟨δ', A', ?_, hJ⟩
    rw [List.drop_eq_getElem_cons hlt]
    unfold forL
    rw [h1]
    dsimp only
    rcases h2 with h2 | h2 <;> rw [h2] <;> exact e
theorem sFor_inv {src : Env → M (List D)} {tgt : D → Env → Option Env} {body : Env → AS → SR} {I : Nat → Env → AS → Prop} {ds : List D} (hs : src δ A = .ok ds A') (h0 : I 0 δ A')
    (h : ∀ k δ A d, ds[k]? = some d → I k δ A → ∃ δ1 δ2 A2, tgt d δ = some δ1 ∧ (body δ1 A = .nx δ2 A2 ∨ body δ1 A = .ct δ2 A2) ∧ I (k + 1) δ2 A2) :
    ∃ δ' A2, sFor src tgt body δ A = .nx δ' A2 ∧ I ds.length δ' A2 := by
  obtain ⟨δ', A2, e, hI⟩ := forL_inv h 0 δ A' (Nat.zero_le _) h0
  refine ⟨δ', A2, ?_, hI⟩
  unfold sFor
  rw [hs]
  exact e
/-- the first turns of a loop -/
theorem forL_pre {tgt : D → Env → Option Env} {body : Env → AS → SR} {ys : List D} : ∀ {xs : List D} {I : Nat → Env → AS → Prop} {δ : Env} {A : AS}, I 0 δ A →
    (∀ k δ A d, xs[k]? = some d → I k δ A → ∃ δ1 δ2 A2, tgt d δ = some δ1 ∧ (body δ1 A = .nx δ2 A2 ∨ body δ1 A = .ct δ2 A2) ∧ I (k + 1) δ2 A2) →
    ∃ δ' A', forL tgt body (xs ++ ys) δ A = forL tgt body ys δ' A' ∧ I xs.length δ' A'
  | [], I, δ, A, h0, _ => ⟨δ, A, rfl, h0⟩
  | x :: xs, I, δ, A, h0, h => by
    obtain ⟨δ1, δ2, A2, h1, h2, h3⟩ := h 0 δ A x rfl h0
    obtain ⟨δ', A', e, hI⟩ := forL_pre (ys := ys) (xs := xs) (I := fun k => I (k + 1)) (δ := δ2) (A := A2) h3 fun k δ A d hd hI => h (k + 1) δ A d hd hI
    refine ⟨δ', A', ?_, hI⟩
    rw [List.cons_append]
    conv => lhs; unfold forL
    rw [h1]
    dsimp only
    rcases h2 with h2 | h2 <;> rw [h2] <;> exact e
theorem rngL_split {lo : Int} {n k : Nat} (h : k < n) : rngL lo n = rngL lo k ++ .int (lo + k) :: (rngL lo n).drop (k + 1) := by
  have e : (rngL lo n).take k = rngL lo k := by
    unfold rngL
    rw [← List.map_take, List.take_range, Nat.min_eq_left (by omega)]
  have g : (rngL lo n)[k]? = some (.int (lo + k)) := by
    unfold rngL
    rw [List.getElem?_map, List.getElem?_range h]
    rfl
  have hk : k < (rngL lo n).length := (List.getElem?_eq_some_iff.mp g).1
  conv => lhs; rw [← List.take_append_drop k (rngL lo n), List.drop_eq_getElem_cons hk]
  rw [e, (List.getElem?_eq_some_iff.mp g).2]
theorem wRng1_ok {fa : Env → M (List D)} {j : Int} (h : fa δ A = .ok [.int j] A') (hj : -(2 ^ 62) ≤ j ∧ j < 2 ^ 62) : wRng1 fa δ A = .ok (rngL 0 j.toNat) A' := by
  unfold wRng1
  rw [h]
  show (if small62 j = true then _ else _) = _
  rw [if_pos (show small62 j = true from @decide_eq_true _ (Classical.propDecidable _) hj)]
theorem rngL_get {lo : Int} {n k : Nat} {d : D} (h : (rngL lo n)[k]? = some d) : k < n ∧ d = .int (lo + k) := by
  unfold rngL at h
  rw [List.getElem?_map] at h
  cases e : (List.range n)[k]? with
  | none => rw [e] at h; cases h
  | some m =>
    rw [e] at h
    have hk : k < (List.range n).length := (List.getElem?_eq_some_iff.mp e).1
    rw [List.length_range] at hk
    rw [List.getElem?_range hk] at e
    cases e
    exact ⟨hk, (Option.some.inj h).symm⟩
theorem rngL_length {lo : Int} {n : Nat} : (rngL lo n).length = n := by simp [rngL]
end
end Pv

namespace K61
open PySem PySem.Spec L2 Pv
open PyProof.Rows hiding St
def topS (i : Nat) : Stmt := PySem.Challenge.pw_meterhouse_k61_counts_up_to_bounds.main.body.getD i (.Pass ⟨0, 0, 0, 0⟩)
/-! divisor -/
abbrev s_divisor : Stmt := topS 4
abbrev n_divisor : List Str := ["a", "b"]
theorem sc_divisor : FnScope n_divisor ["a", "b"] (defScope s_divisor) := ⟨rfl, rfl, rfl, by decide +kernel, rfl, by decide +kernel, by decide +kernel⟩
noncomputable def b_divisor_1 : Pv.Env → AS → SR := (sPar (.sh (eVar 1)) (.sh (eBin modD (eVar 0) (eVar 1))) 0 1)
noncomputable def g_divisor : Pv.Env → AS → SR := (sSeq (sWhile (tst (eBin gtD (eVar 1) (eC (.int 0)))) (b_divisor_1)) (sRet (eVar 0)))
noncomputable def F_divisor : Fn := runF 2 (g_divisor)
set_option maxRecDepth 20000 in
theorem der_divisor {P : Program} {w : World} {K : PySem.W.Frag} {mg : Str → Option Value} {base : Heap} {k : Nat} (f : Addr) (cdv : Value) (A : Around) (outer : List PySem.Env) (s : Shared) (H : Hp) (E : XK) (hr : Room (k + 1) (A.deeper (envOfC "divisor" (defScope s_divisor) s.heap.objs.size f cdv))) : ∃ t, PuSs (cxOf (L2.CX P w) P w K mg base n_divisor "divisor" (defScope s_divisor) f cdv A outer s H E) (WW.ofE E) (defBody s_divisor) t (g_divisor) := by
  have tk : Takes (cxOf (L2.CX P w) P w K mg base n_divisor "divisor" (defScope s_divisor) f cdv A outer s H E) (WW.ofE E).w := takes_of rfl rfl rfl rfl
  have po : PassesOwn (model P w) (cxOf (L2.CX P w) P w K mg base n_divisor "divisor" (defScope s_divisor) f cdv A outer s H E).A (cxOf (L2.CX P w) P w K mg base n_divisor "divisor" (defScope s_divisor) f cdv A outer s H E).env (cxOf (L2.CX P w) P w K mg base n_divisor "divisor" (defScope s_divisor) f cdv A outer s H E).xe := passes_of rfl
  have h0 : Room k (cxOf (L2.CX P w) P w K mg base n_divisor "divisor" (defScope s_divisor) f cdv A outer s H E).A := hr.mono (Nat.le_succ k)
  exact ⟨_, (puss_cons (by exact (pus_while po (by exact (pt_cmp1 op_gtIS snd_gt (PuE.toB (pu_var (pv 1))) (PuE.toB pu_int) (nomark _))) (puss_one (by exact (pus_par (i := 0) (j := 1) rfl sc_divisor.nd rfl rfl (by decide) rfl rfl (PuE.pas (pu_var (pv 1))) (PuE.pas (by exact (pu_bin op_mod snd_mod (PuE.toB (pu_var (pv 0))) (PuE.toB (pu_var (pv 1)))))) (by rfl)))))) (puss_one (by exact (pus_ret (pu_var (pv 0))))))⟩
theorem cal_divisor {P : Program} {w : World} {K : PySem.W.Frag} {mg : Str → Option Value} {base : Heap} {k : Nat} (F : FunG K mg "divisor" s_divisor ["a", "b"]) : Cal P w K mg base (k + 1 + 1) "divisor" 2 (runF 2 (g_divisor)) := cal_of F sc_divisor (der_divisor )

/-! ratio -/
abbrev s_ratio : Stmt := topS 5
abbrev n_ratio : List Str := ["above", "below", "shared"]
theorem sc_ratio : FnScope n_ratio ["above", "below"] (defScope s_ratio) := ⟨rfl, rfl, rfl, by decide +kernel, rfl, by decide +kernel, by decide +kernel⟩
noncomputable def g_ratio (F_divisor : Fn) : Pv.Env → AS → SR := (sSeq (sIf (tst (eBin ltD (eVar 1) (eC (.int 0)))) (sPar (.sh (eBin subD (eC (.int 0)) (eVar 0))) (.sh (eBin subD (eC (.int 0)) (eVar 1))) 0 1) sNx) (sSeq (sAsg (gN 2) (eCall 2 F_divisor (aCons (eB (one absOne) (aCons (eVar 0) aNil)) (aCons (eVar 1) aNil)))) (sSeq (sPar (.sh (eBin fdivD (eVar 0) (eVar 2))) (.sh (eBin fdivD (eVar 1) (eVar 2))) 0 1) (sRet (eIf (tst (eBin eqD (eVar 1) (eC (.int 1)))) (eVar 0) (eTup (aCons (eVar 0) (aCons (eVar 1) aNil))))))))
noncomputable def F_ratio : Fn := runF 3 (g_ratio F_divisor)
set_option maxRecDepth 20000 in
theorem der_ratio {P : Program} {w : World} {K : PySem.W.Frag} {mg : Str → Option Value} {base : Heap} {k : Nat} {F_divisor : Fn} (m_abs : mg "abs" = none) (c_divisor : Cal P w K mg base k "divisor" 2 F_divisor) (f : Addr) (cdv : Value) (A : Around) (outer : List PySem.Env) (s : Shared) (H : Hp) (E : XK) (hr : Room (k + 1) (A.deeper (envOfC "ratio" (defScope s_ratio) s.heap.objs.size f cdv))) : ∃ t, PuSs (cxOf (L2.CX P w) P w K mg base n_ratio "ratio" (defScope s_ratio) f cdv A outer s H E) (WW.ofE E) (defBody s_ratio) t (g_ratio F_divisor) := by
  have tk : Takes (cxOf (L2.CX P w) P w K mg base n_ratio "ratio" (defScope s_ratio) f cdv A outer s H E) (WW.ofE E).w := takes_of rfl rfl rfl rfl
  have po : PassesOwn (model P w) (cxOf (L2.CX P w) P w K mg base n_ratio "ratio" (defScope s_ratio) f cdv A outer s H E).A (cxOf (L2.CX P w) P w K mg base n_ratio "ratio" (defScope s_ratio) f cdv A outer s H E).env (cxOf (L2.CX P w) P w K mg base n_ratio "ratio" (defScope s_ratio) f cdv A outer s H E).xe := passes_of rfl
  have h0 : Room k (cxOf (L2.CX P w) P w K mg base n_ratio "ratio" (defScope s_ratio) f cdv A outer s H E).A := hr.mono (Nat.le_succ k)
  exact ⟨_, (puss_cons (by exact (pus_if (by exact (pt_cmp1 op_ltIS snd_lt (PuE.toB (pu_var (pv 1))) (PuE.toB pu_int) (nomark _))) (puss_one (by exact (pus_par (i := 0) (j := 1) rfl sc_ratio.nd rfl rfl (by decide) rfl rfl (PuE.pas (by exact (pu_bin op_subX snd_sub (PuE.toB pu_int) (PuE.toB (pu_var (pv 0)))))) (PuE.pas (by exact (pu_bin op_subX snd_sub (PuE.toB pu_int) (PuE.toB (pu_var (pv 1)))))) (by rfl)))) puss_nil)) (puss_cons (by exact (pus_asg (by exact (pu_cal c_divisor tk h0 (pu_cons (by exact (pu_callB call_abs snd_abs (by rfl) m_abs bt_abs (pc_cons (PuE.toB (pu_var (pv 0))) pc_nil))) (pu_cons (pu_var (pv 1)) pu_nil)))) (pug_name (pg_name (i := 2) sc_ratio.nd rfl (by first | exact Or.inl rfl | exact Or.inr rfl))))) (puss_cons (by exact (pus_par (i := 0) (j := 1) rfl sc_ratio.nd rfl rfl (by decide) rfl rfl (PuE.pas (by exact (pu_bin op_fdivW snd_fdiv (PuE.toB (pu_var (pv 0))) (PuE.toB (pu_var (pv 2)))))) (PuE.pas (by exact (pu_bin op_fdivW snd_fdiv (PuE.toB (pu_var (pv 1))) (PuE.toB (pu_var (pv 2)))))) (by rfl))) (puss_one (by exact (pus_ret (by exact (pu_if (by exact (pt_cmp1 (op_eqX hr.units) snd_eq (PuE.toB (pu_var (pv 1))) (PuE.toB pu_int) (nomark _))) (pu_var (pv 0)) (by exact (pu_tup (pu_cons (pu_var (pv 0)) (pu_cons (pu_var (pv 1)) pu_nil))))))))))))⟩
theorem cal_ratio {P : Program} {w : World} {K : PySem.W.Frag} {mg : Str → Option Value} {base : Heap} {k : Nat} {F_divisor : Fn} (F : FunG K mg "ratio" s_ratio ["above", "below"]) (m_abs : mg "abs" = none) (c_divisor : Cal P w K mg base k "divisor" 2 F_divisor) : Cal P w K mg base (k + 1 + 1) "ratio" 2 (runF 3 (g_ratio F_divisor)) := cal_of F sc_ratio (der_ratio m_abs c_divisor)

/-! parts -/
abbrev s_parts : Stmt := topS 6
abbrev n_parts : List Str := ["number"]
theorem sc_parts : FnScope n_parts ["number"] (defScope s_parts) := ⟨rfl, rfl, rfl, by decide +kernel, rfl, by decide +kernel, by decide +kernel⟩
noncomputable def g_parts : Pv.Env → AS → SR := (sRet (eIf (tst (eUn (isiD "tuple") (eVar 0))) (eVar 0) (eTup (aCons (eVar 0) (aCons (eC (.int 1)) aNil)))))
noncomputable def F_parts : Fn := runF 1 (g_parts)
set_option maxRecDepth 20000 in
theorem der_parts {P : Program} {w : World} {K : PySem.W.Frag} {mg : Str → Option Value} {base : Heap} {k : Nat} (m_isinstance : mg "isinstance" = none) (m_tuple : mg "tuple" = none) (f : Addr) (cdv : Value) (A : Around) (outer : List PySem.Env) (s : Shared) (H : Hp) (E : XK) (hr : Room (k + 1) (A.deeper (envOfC "parts" (defScope s_parts) s.heap.objs.size f cdv))) : ∃ t, PuSs (cxOf (L2.CX P w) P w K mg base n_parts "parts" (defScope s_parts) f cdv A outer s H E) (WW.ofE E) (defBody s_parts) t (g_parts) := by
  have tk : Takes (cxOf (L2.CX P w) P w K mg base n_parts "parts" (defScope s_parts) f cdv A outer s H E) (WW.ofE E).w := takes_of rfl rfl rfl rfl
  have po : PassesOwn (model P w) (cxOf (L2.CX P w) P w K mg base n_parts "parts" (defScope s_parts) f cdv A outer s H E).A (cxOf (L2.CX P w) P w K mg base n_parts "parts" (defScope s_parts) f cdv A outer s H E).env (cxOf (L2.CX P w) P w K mg base n_parts "parts" (defScope s_parts) f cdv A outer s H E).xe := passes_of rfl
  have h0 : Room k (cxOf (L2.CX P w) P w K mg base n_parts "parts" (defScope s_parts) f cdv A outer s H E).A := hr.mono (Nat.le_succ k)
  exact ⟨_, (puss_one (by exact (pus_ret (by exact (pu_if (by exact (pt_valE (by exact (pu_isi rfl (PuE.toB (pu_var (pv 0))) (by rfl) m_isinstance (by rfl) m_tuple bt_tuple)))) (pu_var (pv 0)) (by exact (pu_tup (pu_cons (pu_var (pv 0)) (pu_cons pu_int pu_nil)))))))))⟩
theorem cal_parts {P : Program} {w : World} {K : PySem.W.Frag} {mg : Str → Option Value} {base : Heap} {k : Nat} (F : FunG K mg "parts" s_parts ["number"]) (m_isinstance : mg "isinstance" = none) (m_tuple : mg "tuple" = none) : Cal P w K mg base (k + 1 + 1) "parts" 1 (runF 1 (g_parts)) := cal_of F sc_parts (der_parts m_isinstance m_tuple)

/-! add -/
abbrev s_add : Stmt := topS 7
abbrev n_add : List Str := ["one", "other", "a", "b", "c", "d"]
theorem sc_add : FnScope n_add ["one", "other"] (defScope s_add) := ⟨rfl, rfl, rfl, by decide +kernel, rfl, by decide +kernel, by decide +kernel⟩
noncomputable def g_add (F_parts : Fn) (F_ratio : Fn) : Pv.Env → AS → SR := (sSeq (sAsg (gT 2 (gsCons (gN 2) (gsCons (gN 3) gsNil))) (eCall 1 F_parts (aCons (eVar 0) aNil))) (sSeq (sAsg (gT 2 (gsCons (gN 4) (gsCons (gN 5) gsNil))) (eCall 1 F_parts (aCons (eVar 1) aNil))) (sRet (eCall 2 F_ratio (aCons (eBin addD (eBin mulD (eVar 2) (eVar 5)) (eBin mulD (eVar 4) (eVar 3))) (aCons (eBin mulD (eVar 3) (eVar 5)) aNil))))))
noncomputable def F_add : Fn := runF 6 (g_add F_parts F_ratio)
set_option maxRecDepth 20000 in
theorem der_add {P : Program} {w : World} {K : PySem.W.Frag} {mg : Str → Option Value} {base : Heap} {k : Nat} {F_parts : Fn} {F_ratio : Fn} (c_parts : Cal P w K mg base k "parts" 1 F_parts) (c_ratio : Cal P w K mg base k "ratio" 2 F_ratio) (f : Addr) (cdv : Value) (A : Around) (outer : List PySem.Env) (s : Shared) (H : Hp) (E : XK) (hr : Room (k + 1) (A.deeper (envOfC "add" (defScope s_add) s.heap.objs.size f cdv))) : ∃ t, PuSs (cxOf (L2.CX P w) P w K mg base n_add "add" (defScope s_add) f cdv A outer s H E) (WW.ofE E) (defBody s_add) t (g_add F_parts F_ratio) := by
  have tk : Takes (cxOf (L2.CX P w) P w K mg base n_add "add" (defScope s_add) f cdv A outer s H E) (WW.ofE E).w := takes_of rfl rfl rfl rfl
  have po : PassesOwn (model P w) (cxOf (L2.CX P w) P w K mg base n_add "add" (defScope s_add) f cdv A outer s H E).A (cxOf (L2.CX P w) P w K mg base n_add "add" (defScope s_add) f cdv A outer s H E).env (cxOf (L2.CX P w) P w K mg base n_add "add" (defScope s_add) f cdv A outer s H E).xe := passes_of rfl
  have h0 : Room k (cxOf (L2.CX P w) P w K mg base n_add "add" (defScope s_add) f cdv A outer s H E).A := hr.mono (Nat.le_succ k)
  exact ⟨_, (puss_cons (by exact (pus_asg (by exact (pu_cal c_parts tk h0 (pu_cons (pu_var (pv 0)) pu_nil))) (pug_tup rfl (pugs_cons (pug_name (pg_name (i := 2) sc_add.nd rfl (by first | exact Or.inl rfl | exact Or.inr rfl))) (pugs_cons (pug_name (pg_name (i := 3) sc_add.nd rfl (by first | exact Or.inl rfl | exact Or.inr rfl))) pugs_nil))))) (puss_cons (by exact (pus_asg (by exact (pu_cal c_parts tk h0 (pu_cons (pu_var (pv 1)) pu_nil))) (pug_tup rfl (pugs_cons (pug_name (pg_name (i := 4) sc_add.nd rfl (by first | exact Or.inl rfl | exact Or.inr rfl))) (pugs_cons (pug_name (pg_name (i := 5) sc_add.nd rfl (by first | exact Or.inl rfl | exact Or.inr rfl))) pugs_nil))))) (puss_one (by exact (pus_ret (by exact (pu_cal c_ratio tk h0 (pu_cons (by exact (pu_bin op_addAll snd_add (PuE.toB (by exact (pu_bin op_mulW snd_mul (PuE.toB (pu_var (pv 2))) (PuE.toB (pu_var (pv 5)))))) (PuE.toB (by exact (pu_bin op_mulW snd_mul (PuE.toB (pu_var (pv 4))) (PuE.toB (pu_var (pv 3)))))))) (pu_cons (by exact (pu_bin op_mulW snd_mul (PuE.toB (pu_var (pv 3))) (PuE.toB (pu_var (pv 5))))) pu_nil)))))))))⟩
theorem cal_add {P : Program} {w : World} {K : PySem.W.Frag} {mg : Str → Option Value} {base : Heap} {k : Nat} {F_parts : Fn} {F_ratio : Fn} (F : FunG K mg "add" s_add ["one", "other"]) (c_parts : Cal P w K mg base k "parts" 1 F_parts) (c_ratio : Cal P w K mg base k "ratio" 2 F_ratio) : Cal P w K mg base (k + 1 + 1) "add" 2 (runF 6 (g_add F_parts F_ratio)) := cal_of F sc_add (der_add c_parts c_ratio)

/-! minus -/
abbrev s_minus : Stmt := topS 8
abbrev n_minus : List Str := ["number", "a", "b"]
theorem sc_minus : FnScope n_minus ["number"] (defScope s_minus) := ⟨rfl, rfl, rfl, by decide +kernel, rfl, by decide +kernel, by decide +kernel⟩
noncomputable def g_minus (F_parts : Fn) (F_ratio : Fn) : Pv.Env → AS → SR := (sSeq (sAsg (gT 2 (gsCons (gN 1) (gsCons (gN 2) gsNil))) (eCall 1 F_parts (aCons (eVar 0) aNil))) (sRet (eCall 2 F_ratio (aCons (eBin subD (eC (.int 0)) (eVar 1)) (aCons (eVar 2) aNil)))))
noncomputable def F_minus : Fn := runF 3 (g_minus F_parts F_ratio)
set_option maxRecDepth 20000 in
theorem der_minus {P : Program} {w : World} {K : PySem.W.Frag} {mg : Str → Option Value} {base : Heap} {k : Nat} {F_parts : Fn} {F_ratio : Fn} (c_parts : Cal P w K mg base k "parts" 1 F_parts) (c_ratio : Cal P w K mg base k "ratio" 2 F_ratio) (f : Addr) (cdv : Value) (A : Around) (outer : List PySem.Env) (s : Shared) (H : Hp) (E : XK) (hr : Room (k + 1) (A.deeper (envOfC "minus" (defScope s_minus) s.heap.objs.size f cdv))) : ∃ t, PuSs (cxOf (L2.CX P w) P w K mg base n_minus "minus" (defScope s_minus) f cdv A outer s H E) (WW.ofE E) (defBody s_minus) t (g_minus F_parts F_ratio) := by
  have tk : Takes (cxOf (L2.CX P w) P w K mg base n_minus "minus" (defScope s_minus) f cdv A outer s H E) (WW.ofE E).w := takes_of rfl rfl rfl rfl
  have po : PassesOwn (model P w) (cxOf (L2.CX P w) P w K mg base n_minus "minus" (defScope s_minus) f cdv A outer s H E).A (cxOf (L2.CX P w) P w K mg base n_minus "minus" (defScope s_minus) f cdv A outer s H E).env (cxOf (L2.CX P w) P w K mg base n_minus "minus" (defScope s_minus) f cdv A outer s H E).xe := passes_of rfl
  have h0 : Room k (cxOf (L2.CX P w) P w K mg base n_minus "minus" (defScope s_minus) f cdv A outer s H E).A := hr.mono (Nat.le_succ k)
  exact ⟨_, (puss_cons (by exact (pus_asg (by exact (pu_cal c_parts tk h0 (pu_cons (pu_var (pv 0)) pu_nil))) (pug_tup rfl (pugs_cons (pug_name (pg_name (i := 1) sc_minus.nd rfl (by first | exact Or.inl rfl | exact Or.inr rfl))) (pugs_cons (pug_name (pg_name (i := 2) sc_minus.nd rfl (by first | exact Or.inl rfl | exact Or.inr rfl))) pugs_nil))))) (puss_one (by exact (pus_ret (by exact (pu_cal c_ratio tk h0 (pu_cons (by exact (pu_bin op_subX snd_sub (PuE.toB pu_int) (PuE.toB (pu_var (pv 1))))) (pu_cons (pu_var (pv 2)) pu_nil))))))))⟩
theorem cal_minus {P : Program} {w : World} {K : PySem.W.Frag} {mg : Str → Option Value} {base : Heap} {k : Nat} {F_parts : Fn} {F_ratio : Fn} (F : FunG K mg "minus" s_minus ["number"]) (c_parts : Cal P w K mg base k "parts" 1 F_parts) (c_ratio : Cal P w K mg base k "ratio" 2 F_ratio) : Cal P w K mg base (k + 1 + 1) "minus" 1 (runF 3 (g_minus F_parts F_ratio)) := cal_of F sc_minus (der_minus c_parts c_ratio)

/-! sub -/
abbrev s_sub : Stmt := topS 9
abbrev n_sub : List Str := ["one", "other"]
theorem sc_sub : FnScope n_sub ["one", "other"] (defScope s_sub) := ⟨rfl, rfl, rfl, by decide +kernel, rfl, by decide +kernel, by decide +kernel⟩
noncomputable def g_sub (F_add : Fn) (F_minus : Fn) : Pv.Env → AS → SR := (sRet (eCall 2 F_add (aCons (eVar 0) (aCons (eCall 1 F_minus (aCons (eVar 1) aNil)) aNil))))
noncomputable def F_sub : Fn := runF 2 (g_sub F_add F_minus)
set_option maxRecDepth 20000 in
theorem der_sub {P : Program} {w : World} {K : PySem.W.Frag} {mg : Str → Option Value} {base : Heap} {k : Nat} {F_add : Fn} {F_minus : Fn} (c_add : Cal P w K mg base k "add" 2 F_add) (c_minus : Cal P w K mg base k "minus" 1 F_minus) (f : Addr) (cdv : Value) (A : Around) (outer : List PySem.Env) (s : Shared) (H : Hp) (E : XK) (hr : Room (k + 1) (A.deeper (envOfC "sub" (defScope s_sub) s.heap.objs.size f cdv))) : ∃ t, PuSs (cxOf (L2.CX P w) P w K mg base n_sub "sub" (defScope s_sub) f cdv A outer s H E) (WW.ofE E) (defBody s_sub) t (g_sub F_add F_minus) := by
  have tk : Takes (cxOf (L2.CX P w) P w K mg base n_sub "sub" (defScope s_sub) f cdv A outer s H E) (WW.ofE E).w := takes_of rfl rfl rfl rfl
  have po : PassesOwn (model P w) (cxOf (L2.CX P w) P w K mg base n_sub "sub" (defScope s_sub) f cdv A outer s H E).A (cxOf (L2.CX P w) P w K mg base n_sub "sub" (defScope s_sub) f cdv A outer s H E).env (cxOf (L2.CX P w) P w K mg base n_sub "sub" (defScope s_sub) f cdv A outer s H E).xe := passes_of rfl
  have h0 : Room k (cxOf (L2.CX P w) P w K mg base n_sub "sub" (defScope s_sub) f cdv A outer s H E).A := hr.mono (Nat.le_succ k)
  exact ⟨_, (puss_one (by exact (pus_ret (by exact (pu_cal c_add tk h0 (pu_cons (pu_var (pv 0)) (pu_cons (by exact (pu_cal c_minus tk h0 (pu_cons (pu_var (pv 1)) pu_nil))) pu_nil)))))))⟩
theorem cal_sub {P : Program} {w : World} {K : PySem.W.Frag} {mg : Str → Option Value} {base : Heap} {k : Nat} {F_add : Fn} {F_minus : Fn} (F : FunG K mg "sub" s_sub ["one", "other"]) (c_add : Cal P w K mg base k "add" 2 F_add) (c_minus : Cal P w K mg base k "minus" 1 F_minus) : Cal P w K mg base (k + 1 + 1) "sub" 2 (runF 2 (g_sub F_add F_minus)) := cal_of F sc_sub (der_sub c_add c_minus)

/-! mul -/
abbrev s_mul : Stmt := topS 10
abbrev n_mul : List Str := ["one", "other", "a", "b", "c", "d"]
theorem sc_mul : FnScope n_mul ["one", "other"] (defScope s_mul) := ⟨rfl, rfl, rfl, by decide +kernel, rfl, by decide +kernel, by decide +kernel⟩
noncomputable def g_mul (F_parts : Fn) (F_ratio : Fn) : Pv.Env → AS → SR := (sSeq (sAsg (gT 2 (gsCons (gN 2) (gsCons (gN 3) gsNil))) (eCall 1 F_parts (aCons (eVar 0) aNil))) (sSeq (sAsg (gT 2 (gsCons (gN 4) (gsCons (gN 5) gsNil))) (eCall 1 F_parts (aCons (eVar 1) aNil))) (sRet (eCall 2 F_ratio (aCons (eBin mulD (eVar 2) (eVar 4)) (aCons (eBin mulD (eVar 3) (eVar 5)) aNil))))))
noncomputable def F_mul : Fn := runF 6 (g_mul F_parts F_ratio)
set_option maxRecDepth 20000 in
theorem der_mul {P : Program} {w : World} {K : PySem.W.Frag} {mg : Str → Option Value} {base : Heap} {k : Nat} {F_parts : Fn} {F_ratio : Fn} (c_parts : Cal P w K mg base k "parts" 1 F_parts) (c_ratio : Cal P w K mg base k "ratio" 2 F_ratio) (f : Addr) (cdv : Value) (A : Around) (outer : List PySem.Env) (s : Shared) (H : Hp) (E : XK) (hr : Room (k + 1) (A.deeper (envOfC "mul" (defScope s_mul) s.heap.objs.size f cdv))) : ∃ t, PuSs (cxOf (L2.CX P w) P w K mg base n_mul "mul" (defScope s_mul) f cdv A outer s H E) (WW.ofE E) (defBody s_mul) t (g_mul F_parts F_ratio) := by
  have tk : Takes (cxOf (L2.CX P w) P w K mg base n_mul "mul" (defScope s_mul) f cdv A outer s H E) (WW.ofE E).w := takes_of rfl rfl rfl rfl
  have po : PassesOwn (model P w) (cxOf (L2.CX P w) P w K mg base n_mul "mul" (defScope s_mul) f cdv A outer s H E).A (cxOf (L2.CX P w) P w K mg base n_mul "mul" (defScope s_mul) f cdv A outer s H E).env (cxOf (L2.CX P w) P w K mg base n_mul "mul" (defScope s_mul) f cdv A outer s H E).xe := passes_of rfl
  have h0 : Room k (cxOf (L2.CX P w) P w K mg base n_mul "mul" (defScope s_mul) f cdv A outer s H E).A := hr.mono (Nat.le_succ k)
  exact ⟨_, (puss_cons (by exact (pus_asg (by exact (pu_cal c_parts tk h0 (pu_cons (pu_var (pv 0)) pu_nil))) (pug_tup rfl (pugs_cons (pug_name (pg_name (i := 2) sc_mul.nd rfl (by first | exact Or.inl rfl | exact Or.inr rfl))) (pugs_cons (pug_name (pg_name (i := 3) sc_mul.nd rfl (by first | exact Or.inl rfl | exact Or.inr rfl))) pugs_nil))))) (puss_cons (by exact (pus_asg (by exact (pu_cal c_parts tk h0 (pu_cons (pu_var (pv 1)) pu_nil))) (pug_tup rfl (pugs_cons (pug_name (pg_name (i := 4) sc_mul.nd rfl (by first | exact Or.inl rfl | exact Or.inr rfl))) (pugs_cons (pug_name (pg_name (i := 5) sc_mul.nd rfl (by first | exact Or.inl rfl | exact Or.inr rfl))) pugs_nil))))) (puss_one (by exact (pus_ret (by exact (pu_cal c_ratio tk h0 (pu_cons (by exact (pu_bin op_mulW snd_mul (PuE.toB (pu_var (pv 2))) (PuE.toB (pu_var (pv 4))))) (pu_cons (by exact (pu_bin op_mulW snd_mul (PuE.toB (pu_var (pv 3))) (PuE.toB (pu_var (pv 5))))) pu_nil)))))))))⟩
theorem cal_mul {P : Program} {w : World} {K : PySem.W.Frag} {mg : Str → Option Value} {base : Heap} {k : Nat} {F_parts : Fn} {F_ratio : Fn} (F : FunG K mg "mul" s_mul ["one", "other"]) (c_parts : Cal P w K mg base k "parts" 1 F_parts) (c_ratio : Cal P w K mg base k "ratio" 2 F_ratio) : Cal P w K mg base (k + 1 + 1) "mul" 2 (runF 6 (g_mul F_parts F_ratio)) := cal_of F sc_mul (der_mul c_parts c_ratio)

/-! sign -/
abbrev s_sign : Stmt := topS 11
abbrev n_sign : List Str := ["number", "above"]
theorem sc_sign : FnScope n_sign ["number"] (defScope s_sign) := ⟨rfl, rfl, rfl, by decide +kernel, rfl, by decide +kernel, by decide +kernel⟩
noncomputable def g_sign (F_parts : Fn) : Pv.Env → AS → SR := (sSeq (sAsg (gN 1) (eBin ixD (eCall 1 F_parts (aCons (eVar 0) aNil)) (eC (.int 0)))) (sRet (eBin subD (eBin gtD (eVar 1) (eC (.int 0))) (eBin ltD (eVar 1) (eC (.int 0))))))
noncomputable def F_sign : Fn := runF 2 (g_sign F_parts)
set_option maxRecDepth 20000 in
theorem der_sign {P : Program} {w : World} {K : PySem.W.Frag} {mg : Str → Option Value} {base : Heap} {k : Nat} {F_parts : Fn} (c_parts : Cal P w K mg base k "parts" 1 F_parts) (f : Addr) (cdv : Value) (A : Around) (outer : List PySem.Env) (s : Shared) (H : Hp) (E : XK) (hr : Room (k + 1) (A.deeper (envOfC "sign" (defScope s_sign) s.heap.objs.size f cdv))) : ∃ t, PuSs (cxOf (L2.CX P w) P w K mg base n_sign "sign" (defScope s_sign) f cdv A outer s H E) (WW.ofE E) (defBody s_sign) t (g_sign F_parts) := by
  have tk : Takes (cxOf (L2.CX P w) P w K mg base n_sign "sign" (defScope s_sign) f cdv A outer s H E) (WW.ofE E).w := takes_of rfl rfl rfl rfl
  have po : PassesOwn (model P w) (cxOf (L2.CX P w) P w K mg base n_sign "sign" (defScope s_sign) f cdv A outer s H E).A (cxOf (L2.CX P w) P w K mg base n_sign "sign" (defScope s_sign) f cdv A outer s H E).env (cxOf (L2.CX P w) P w K mg base n_sign "sign" (defScope s_sign) f cdv A outer s H E).xe := passes_of rfl
  have h0 : Room k (cxOf (L2.CX P w) P w K mg base n_sign "sign" (defScope s_sign) f cdv A outer s H E).A := hr.mono (Nat.le_succ k)
  exact ⟨_, (puss_cons (by exact (pus_asg (by exact (pu_ix (PuE.toB (by exact (pu_cal c_parts tk h0 (pu_cons (pu_var (pv 0)) pu_nil)))) (PuE.toB pu_int) (fun _ _ => rfl))) (pug_name (pg_name (i := 1) sc_sign.nd rfl (by first | exact Or.inl rfl | exact Or.inr rfl))))) (puss_one (by exact (pus_ret (by exact (pu_bin op_subX snd_sub (PuE.toB (by exact (pu_cmp op_gtIS snd_gt (PuE.toB (pu_var (pv 1))) (PuE.toB pu_int) (nomark _)))) (PuE.toB (by exact (pu_cmp op_ltIS snd_lt (PuE.toB (pu_var (pv 1))) (PuE.toB pu_int) (nomark _))))))))))⟩
theorem cal_sign {P : Program} {w : World} {K : PySem.W.Frag} {mg : Str → Option Value} {base : Heap} {k : Nat} {F_parts : Fn} (F : FunG K mg "sign" s_sign ["number"]) (c_parts : Cal P w K mg base k "parts" 1 F_parts) : Cal P w K mg base (k + 1 + 1) "sign" 1 (runF 2 (g_sign F_parts)) := cal_of F sc_sign (der_sign c_parts)

/-! less -/
abbrev s_less : Stmt := topS 12
abbrev n_less : List Str := ["one", "other"]
theorem sc_less : FnScope n_less ["one", "other"] (defScope s_less) := ⟨rfl, rfl, rfl, by decide +kernel, rfl, by decide +kernel, by decide +kernel⟩
noncomputable def g_less (F_sign : Fn) (F_sub : Fn) : Pv.Env → AS → SR := (sRet (eBin ltD (eCall 1 F_sign (aCons (eCall 2 F_sub (aCons (eVar 0) (aCons (eVar 1) aNil))) aNil)) (eC (.int 0))))
noncomputable def F_less : Fn := runF 2 (g_less F_sign F_sub)
set_option maxRecDepth 20000 in
theorem der_less {P : Program} {w : World} {K : PySem.W.Frag} {mg : Str → Option Value} {base : Heap} {k : Nat} {F_sign : Fn} {F_sub : Fn} (c_sign : Cal P w K mg base k "sign" 1 F_sign) (c_sub : Cal P w K mg base k "sub" 2 F_sub) (f : Addr) (cdv : Value) (A : Around) (outer : List PySem.Env) (s : Shared) (H : Hp) (E : XK) (hr : Room (k + 1) (A.deeper (envOfC "less" (defScope s_less) s.heap.objs.size f cdv))) : ∃ t, PuSs (cxOf (L2.CX P w) P w K mg base n_less "less" (defScope s_less) f cdv A outer s H E) (WW.ofE E) (defBody s_less) t (g_less F_sign F_sub) := by
  have tk : Takes (cxOf (L2.CX P w) P w K mg base n_less "less" (defScope s_less) f cdv A outer s H E) (WW.ofE E).w := takes_of rfl rfl rfl rfl
  have po : PassesOwn (model P w) (cxOf (L2.CX P w) P w K mg base n_less "less" (defScope s_less) f cdv A outer s H E).A (cxOf (L2.CX P w) P w K mg base n_less "less" (defScope s_less) f cdv A outer s H E).env (cxOf (L2.CX P w) P w K mg base n_less "less" (defScope s_less) f cdv A outer s H E).xe := passes_of rfl
  have h0 : Room k (cxOf (L2.CX P w) P w K mg base n_less "less" (defScope s_less) f cdv A outer s H E).A := hr.mono (Nat.le_succ k)
  exact ⟨_, (puss_one (by exact (pus_ret (by exact (pu_cmp op_ltIS snd_lt (PuE.toB (by exact (pu_cal c_sign tk h0 (pu_cons (by exact (pu_cal c_sub tk h0 (pu_cons (pu_var (pv 0)) (pu_cons (pu_var (pv 1)) pu_nil)))) pu_nil)))) (PuE.toB pu_int) (nomark _))))))⟩
theorem cal_less {P : Program} {w : World} {K : PySem.W.Frag} {mg : Str → Option Value} {base : Heap} {k : Nat} {F_sign : Fn} {F_sub : Fn} (F : FunG K mg "less" s_less ["one", "other"]) (c_sign : Cal P w K mg base k "sign" 1 F_sign) (c_sub : Cal P w K mg base k "sub" 2 F_sub) : Cal P w K mg base (k + 1 + 1) "less" 2 (runF 2 (g_less F_sign F_sub)) := cal_of F sc_less (der_less c_sign c_sub)

/-! is_number -/
abbrev s_is_number : Stmt := topS 13
abbrev n_is_number : List Str := ["value", "x"]
theorem sc_is_number : FnScope n_is_number ["value"] (defScope s_is_number) := ⟨rfl, rfl, rfl, by decide +kernel, rfl, by decide +kernel, by decide +kernel⟩
noncomputable def g_is_number (F_divisor : Fn) : Pv.Env → AS → SR := (sSeq (sIf (tst (eUn (isiD "tuple") (eVar 0))) (sSeq (sIf (cOr (tst (eBin neD (eB (one lenOne) (aCons (eVar 0) aNil)) (eC (.int 2)))) (cNot (tst (eB (one allOne) (aCons (fLst (eLc [1] (wSeq (eVar 0)) (gN 1) cYes (eAnd (eUn (isiD "int") (eVar 1)) (eNot (eUn (isiD "bool") (eVar 1)))))) aNil))))) (sRet (eC (.bl false))) sNx) (sRet (eAnd (eBin gtD (eBin ixD (eVar 0) (eC (.int 1))) (eC (.int 1))) (eBin eqD (eCall 2 F_divisor (aCons (eB (one absOne) (aCons (eBin ixD (eVar 0) (eC (.int 0))) aNil)) (aCons (eBin ixD (eVar 0) (eC (.int 1))) aNil))) (eC (.int 1)))))) sNx) (sRet (eAnd (eUn (isiD "int") (eVar 0)) (eNot (eUn (isiD "bool") (eVar 0))))))
noncomputable def F_is_number : Fn := runF 2 (g_is_number F_divisor)
set_option maxRecDepth 20000 in
theorem der_is_number {P : Program} {w : World} {K : PySem.W.Frag} {mg : Str → Option Value} {base : Heap} {k : Nat} {F_divisor : Fn} (m_isinstance : mg "isinstance" = none) (m_tuple : mg "tuple" = none) (m_len : mg "len" = none) (m_all : mg "all" = none) (m_int : mg "int" = none) (m_bool : mg "bool" = none) (m_abs : mg "abs" = none) (c_divisor : Cal P w K mg base k "divisor" 2 F_divisor) (f : Addr) (cdv : Value) (A : Around) (outer : List PySem.Env) (s : Shared) (H : Hp) (E : XK) (hr : Room (k + 1) (A.deeper (envOfC "is_number" (defScope s_is_number) s.heap.objs.size f cdv))) : ∃ t, PuSs (cxOf (L2.CX P w) P w K mg base n_is_number "is_number" (defScope s_is_number) f cdv A outer s H E) (WW.ofE E) (defBody s_is_number) t (g_is_number F_divisor) := by
  have tk : Takes (cxOf (L2.CX P w) P w K mg base n_is_number "is_number" (defScope s_is_number) f cdv A outer s H E) (WW.ofE E).w := takes_of rfl rfl rfl rfl
  have po : PassesOwn (model P w) (cxOf (L2.CX P w) P w K mg base n_is_number "is_number" (defScope s_is_number) f cdv A outer s H E).A (cxOf (L2.CX P w) P w K mg base n_is_number "is_number" (defScope s_is_number) f cdv A outer s H E).env (cxOf (L2.CX P w) P w K mg base n_is_number "is_number" (defScope s_is_number) f cdv A outer s H E).xe := passes_of rfl
  have h0 : Room k (cxOf (L2.CX P w) P w K mg base n_is_number "is_number" (defScope s_is_number) f cdv A outer s H E).A := hr.mono (Nat.le_succ k)
  exact ⟨_, (puss_cons (by exact (pus_if (by exact (pt_valE (by exact (pu_isi rfl (PuE.toB (pu_var (pv 0))) (by rfl) m_isinstance (by rfl) m_tuple bt_tuple)))) (puss_cons (by exact (pus_if (by exact (PuW.pt (pw2_or (by exact (pt_cmp1 (op_neX hr.units) snd_ne (PuE.toB (by exact (pu_callB rlen snd_len (by rfl) m_len bt_len (pc_cons (PuE.toB (pu_var (pv 0))) pc_nil)))) (PuE.toB pu_int) (nomark _))) (pw1_or (by exact (ptn_not (by exact (pt_valE (by exact (pu_callB (cr_all rfl) snd_all (by rfl) m_all bt_all (pc_cons (PuE.toB (by exact (PuF.toE (by exact (lcX (hlc := pu_lcX rfl sc_is_number.nd (pui_seq (pu_var (pv 0))) (blkOk_by (own := [("x", 1)]) (by first | (show blkC n_is_number (defScope s_is_number) _ _ = true; decide +kernel) | rfl)) (fun _ => ⟨_, (pug_name (pg_name (i := 1) sc_is_number.nd rfl (by first | exact Or.inl rfl | exact Or.inr rfl)))⟩) (by decide) (fun _ => ⟨_, puts_nil⟩) (fun _ => ⟨_, (by exact (pu_and (by exact (pu_isi rfl (PuE.toB (pu_var (pv 1))) (by rfl) m_isinstance (by rfl) m_int bt_int)) (pu_one (by exact (pu_not (by exact (pu_isi rfl (PuE.toB (pu_var (pv 1))) (by rfl) m_isinstance (by rfl) m_bool bt_bool)))))))⟩) s)))))) pc_nil))))))))))) (puss_one (by exact (pus_ret pu_bl))) puss_nil)) (puss_one (by exact (pus_ret (by exact (pu_and (by exact (pu_cmp op_gtIS snd_gt (PuE.toB (by exact (pu_ix (PuE.toB (pu_var (pv 0))) (PuE.toB pu_int) (fun _ _ => rfl)))) (PuE.toB pu_int) (nomark _))) (pu_one (by exact (pu_cmp (op_eqX hr.units) snd_eq (PuE.toB (by exact (pu_cal c_divisor tk h0 (pu_cons (by exact (pu_callB call_abs snd_abs (by rfl) m_abs bt_abs (pc_cons (PuE.toB (by exact (pu_ix (PuE.toB (pu_var (pv 0))) (PuE.toB pu_int) (fun _ _ => rfl)))) pc_nil))) (pu_cons (by exact (pu_ix (PuE.toB (pu_var (pv 0))) (PuE.toB pu_int) (fun _ _ => rfl))) pu_nil))))) (PuE.toB pu_int) (nomark _)))))))))) puss_nil)) (puss_one (by exact (pus_ret (by exact (pu_and (by exact (pu_isi rfl (PuE.toB (pu_var (pv 0))) (by rfl) m_isinstance (by rfl) m_int bt_int)) (pu_one (by exact (pu_not (by exact (pu_isi rfl (PuE.toB (pu_var (pv 0))) (by rfl) m_isinstance (by rfl) m_bool bt_bool)))))))))))⟩
theorem cal_is_number {P : Program} {w : World} {K : PySem.W.Frag} {mg : Str → Option Value} {base : Heap} {k : Nat} {F_divisor : Fn} (F : FunG K mg "is_number" s_is_number ["value"]) (m_isinstance : mg "isinstance" = none) (m_tuple : mg "tuple" = none) (m_len : mg "len" = none) (m_all : mg "all" = none) (m_int : mg "int" = none) (m_bool : mg "bool" = none) (m_abs : mg "abs" = none) (c_divisor : Cal P w K mg base k "divisor" 2 F_divisor) : Cal P w K mg base (k + 1 + 1) "is_number" 1 (runF 2 (g_is_number F_divisor)) := cal_of F sc_is_number (der_is_number m_isinstance m_tuple m_len m_all m_int m_bool m_abs c_divisor)

/-! counted -/
abbrev s_counted : Stmt := topS 15
abbrev n_counted : List Str := ["values", "bounds", "k", "found", "value", "bound"]
theorem sc_counted : FnScope n_counted ["values", "bounds"] (defScope s_counted) := ⟨rfl, rfl, rfl, by decide +kernel, rfl, by decide +kernel, by decide +kernel⟩
noncomputable def b_counted_1 (F_is_number : Fn) (F_less : Fn) : Pv.Env → AS → SR := (sIf (cOr (cNot (tst (eCall 1 F_is_number (aCons (eBin ixD (eVar 1) (eVar 2)) aNil)))) (cAnd (tst (eBin gtD (eVar 2) (eC (.int 0)))) (cNot (tst (eCall 2 F_less (aCons (eBin ixD (eVar 1) (eBin subD (eVar 2) (eC (.int 1)))) (aCons (eBin ixD (eVar 1) (eVar 2)) aNil))))))) (sRaise (eMk "Wrong" (aCons (eVar 2) aNil))) sNx)
noncomputable def g_counted (F_is_number : Fn) (F_less : Fn) : Pv.Env → AS → SR := (sSeq (sFor (wRng1 (aCons (eB (one lenOne) (aCons (eVar 1) aNil)) aNil)) (gN 2) (b_counted_1 F_is_number F_less)) (sSeq (sAsg (gN 3) (fLst (eLc [5] (wSeq (eVar 1)) (gN 5) cYes (eTup (aCons (eVar 5) (aCons (eB (one lenOne) (aCons (fLst (eLc [4] (wSeq (eVar 0)) (gN 4) (cNot (tst (eCall 2 F_less (aCons (eVar 5) (aCons (eVar 4) aNil))))) (eVar 4))) aNil)) aNil)))))) (sRet (fLst (eBinF catD (eVar 3) (fLst (eLst (aCons (eTup (aCons (eC (.str "all")) (aCons (eB (one lenOne) (aCons (eVar 0) aNil)) aNil))) aNil))))))))
noncomputable def F_counted : Fn := runF 6 (g_counted F_is_number F_less)
set_option maxRecDepth 20000 in
theorem der_counted {P : Program} {w : World} {K : PySem.W.Frag} {mg : Str → Option Value} {base : Heap} {k : Nat} {F_is_number : Fn} {F_less : Fn} (m_range : mg "range" = none) (m_len : mg "len" = none) (c_is_number : Cal P w K mg base k "is_number" 1 F_is_number) (c_less : Cal P w K mg base k "less" 2 F_less) {C_Wrong : Addr} (e_Wrong : Err P w K mg base k "Wrong" C_Wrong) (f : Addr) (cdv : Value) (A : Around) (outer : List PySem.Env) (s : Shared) (H : Hp) (E : XK) (hr : Room (k + 1) (A.deeper (envOfC "counted" (defScope s_counted) s.heap.objs.size f cdv))) : ∃ t, PuSs (cxOf (L2.CX P w) P w K mg base n_counted "counted" (defScope s_counted) f cdv A outer s H E) (WW.ofE E) (defBody s_counted) t (g_counted F_is_number F_less) := by
  have tk : Takes (cxOf (L2.CX P w) P w K mg base n_counted "counted" (defScope s_counted) f cdv A outer s H E) (WW.ofE E).w := takes_of rfl rfl rfl rfl
  have po : PassesOwn (model P w) (cxOf (L2.CX P w) P w K mg base n_counted "counted" (defScope s_counted) f cdv A outer s H E).A (cxOf (L2.CX P w) P w K mg base n_counted "counted" (defScope s_counted) f cdv A outer s H E).env (cxOf (L2.CX P w) P w K mg base n_counted "counted" (defScope s_counted) f cdv A outer s H E).xe := passes_of rfl
  have h0 : Room k (cxOf (L2.CX P w) P w K mg base n_counted "counted" (defScope s_counted) f cdv A outer s H E).A := hr.mono (Nat.le_succ k)
  exact ⟨_, (puss_cons (by exact (pus_for po rfl (pui_rng1 (by rfl) m_range (pu_cons (by exact (pu_callB rlen snd_len (by rfl) m_len bt_len (pc_cons (PuE.toB (pu_var (pv 1))) pc_nil))) pu_nil)) (pug_name (pg_name (i := 2) sc_counted.nd rfl (by first | exact Or.inl rfl | exact Or.inr rfl))) (puss_one (by exact (pus_if (by exact (PuW.pt (pw2_or (by exact (ptn_not (by exact (pt_valE (by exact (pu_cal c_is_number tk h0 (pu_cons (by exact (pu_ix (PuE.toB (pu_var (pv 1))) (PuE.toB (pu_var (pv 2))) (fun _ _ => rfl))) pu_nil))))))) (pw1_or (by exact (PuW.pt (pw2_and (by exact (pt_cmp1 op_gtIS snd_gt (PuE.toB (pu_var (pv 2))) (PuE.toB pu_int) (nomark _))) (pw1_and (by exact (ptn_not (by exact (pt_valE (by exact (pu_cal c_less tk h0 (pu_cons (by exact (pu_ix (PuE.toB (pu_var (pv 1))) (PuE.toB (by exact (pu_bin op_subX snd_sub (PuE.toB (pu_var (pv 2))) (PuE.toB pu_int)))) (fun _ _ => rfl))) (pu_cons (by exact (pu_ix (PuE.toB (pu_var (pv 1))) (PuE.toB (pu_var (pv 2))) (fun _ _ => rfl))) pu_nil)))))))))))))))) (puss_one (by exact (pus_raise rfl tk (pu_err e_Wrong tk hr (pu_cons (pu_var (pv 2)) pu_nil))))) puss_nil))))) (puss_cons (by exact (pus_lc (i := 3) (pus_lcX (i := 3) rfl sc_counted.nd rfl rfl (by rfl) (pui_seq (pu_var (pv 1))) (blkOk_by (own := [("bound", 5)]) (by first | (show blkC n_counted (defScope s_counted) _ _ = true; decide +kernel) | rfl)) (fun _ => ⟨_, (pug_name (pg_name (i := 5) sc_counted.nd rfl (by first | exact Or.inl rfl | exact Or.inr rfl)))⟩) (by decide) (fun _ => ⟨_, puts_nil⟩) (fun _ => ⟨_, (by exact (pu_tup (pu_cons (pu_var (pv 5)) (pu_cons (by exact (pu_callB rlen snd_len (by rfl) m_len bt_len (pc_cons (PuE.toB (by exact (PuF.toE (by exact (lcX (hlc := pu_lcX rfl sc_counted.nd (pui_seq (pu_var (pv 0))) (blkOk_by (own := [("value", 4)]) (by first | (show blkC n_counted (defScope s_counted) _ _ = true; decide +kernel) | rfl)) (fun _ => ⟨_, (pug_name (pg_name (i := 4) sc_counted.nd rfl (by first | exact Or.inl rfl | exact Or.inr rfl)))⟩) (by decide) (fun _ => ⟨_, (puts_one (by exact (ptn_not (by exact (pt_valE (by exact (pu_cal c_less takes_none5 h0 (pu_cons (pu_var (pv 5)) (pu_cons (pu_var (pv 4)) pu_nil)))))))))⟩) (fun _ => ⟨_, (pu_var (pv 4))⟩) s)))))) pc_nil))) pu_nil))))⟩) s))) (puss_one (by exact (pus_ret (by exact (PuF.toE (by exact (pu_binF op_addAll snd_cat (PuE.toB (pu_var (pv 3))) (PuE.toB (by exact (PuF.toE (by exact (pu_lstF (pu_cons (by exact (pu_tup (pu_cons pu_str (pu_cons (by exact (pu_callB rlen snd_len (by rfl) m_len bt_len (pc_cons (PuE.toB (pu_var (pv 0))) pc_nil))) pu_nil)))) pu_nil)))))))))))))))⟩
theorem cal_counted {P : Program} {w : World} {K : PySem.W.Frag} {mg : Str → Option Value} {base : Heap} {k : Nat} {F_is_number : Fn} {F_less : Fn} (F : FunG K mg "counted" s_counted ["values", "bounds"]) (m_range : mg "range" = none) (m_len : mg "len" = none) (c_is_number : Cal P w K mg base k "is_number" 1 F_is_number) (c_less : Cal P w K mg base k "less" 2 F_less) {C_Wrong : Addr} (e_Wrong : Err P w K mg base k "Wrong" C_Wrong) : Cal P w K mg base (k + 1 + 1) "counted" 2 (runF 6 (g_counted F_is_number F_less)) := cal_of F sc_counted (der_counted m_range m_len c_is_number c_less e_Wrong)

/-! rank_at -/
abbrev s_rank_at : Stmt := topS 16
abbrev n_rank_at : List Str := ["share", "many", "above"]
theorem sc_rank_at : FnScope n_rank_at ["share", "many"] (defScope s_rank_at) := ⟨rfl, rfl, rfl, by decide +kernel, rfl, by decide +kernel, by decide +kernel⟩
noncomputable def g_rank_at (F_mul : Fn) : Pv.Env → AS → SR := (sSeq (sAsg (gN 2) (eCall 2 F_mul (aCons (eVar 0) (aCons (eBin subD (eVar 1) (eC (.int 1))) aNil)))) (sRet (eIf (tst (eUn (isiD "tuple") (eVar 2))) (eBin fdivD (eBin ixD (eVar 2) (eC (.int 0))) (eBin ixD (eVar 2) (eC (.int 1)))) (eVar 2))))
noncomputable def F_rank_at : Fn := runF 3 (g_rank_at F_mul)
set_option maxRecDepth 20000 in
theorem der_rank_at {P : Program} {w : World} {K : PySem.W.Frag} {mg : Str → Option Value} {base : Heap} {k : Nat} {F_mul : Fn} (m_isinstance : mg "isinstance" = none) (m_tuple : mg "tuple" = none) (c_mul : Cal P w K mg base k "mul" 2 F_mul) (f : Addr) (cdv : Value) (A : Around) (outer : List PySem.Env) (s : Shared) (H : Hp) (E : XK) (hr : Room (k + 1) (A.deeper (envOfC "rank_at" (defScope s_rank_at) s.heap.objs.size f cdv))) : ∃ t, PuSs (cxOf (L2.CX P w) P w K mg base n_rank_at "rank_at" (defScope s_rank_at) f cdv A outer s H E) (WW.ofE E) (defBody s_rank_at) t (g_rank_at F_mul) := by
  have tk : Takes (cxOf (L2.CX P w) P w K mg base n_rank_at "rank_at" (defScope s_rank_at) f cdv A outer s H E) (WW.ofE E).w := takes_of rfl rfl rfl rfl
  have po : PassesOwn (model P w) (cxOf (L2.CX P w) P w K mg base n_rank_at "rank_at" (defScope s_rank_at) f cdv A outer s H E).A (cxOf (L2.CX P w) P w K mg base n_rank_at "rank_at" (defScope s_rank_at) f cdv A outer s H E).env (cxOf (L2.CX P w) P w K mg base n_rank_at "rank_at" (defScope s_rank_at) f cdv A outer s H E).xe := passes_of rfl
  have h0 : Room k (cxOf (L2.CX P w) P w K mg base n_rank_at "rank_at" (defScope s_rank_at) f cdv A outer s H E).A := hr.mono (Nat.le_succ k)
  exact ⟨_, (puss_cons (by exact (pus_asg (by exact (pu_cal c_mul tk h0 (pu_cons (pu_var (pv 0)) (pu_cons (by exact (pu_bin op_subX snd_sub (PuE.toB (pu_var (pv 1))) (PuE.toB pu_int))) pu_nil)))) (pug_name (pg_name (i := 2) sc_rank_at.nd rfl (by first | exact Or.inl rfl | exact Or.inr rfl))))) (puss_one (by exact (pus_ret (by exact (pu_if (by exact (pt_valE (by exact (pu_isi rfl (PuE.toB (pu_var (pv 2))) (by rfl) m_isinstance (by rfl) m_tuple bt_tuple)))) (by exact (pu_bin op_fdivW snd_fdiv (PuE.toB (by exact (pu_ix (PuE.toB (pu_var (pv 2))) (PuE.toB pu_int) (fun _ _ => rfl)))) (PuE.toB (by exact (pu_ix (PuE.toB (pu_var (pv 2))) (PuE.toB pu_int) (fun _ _ => rfl)))))) (pu_var (pv 2))))))))⟩
theorem cal_rank_at {P : Program} {w : World} {K : PySem.W.Frag} {mg : Str → Option Value} {base : Heap} {k : Nat} {F_mul : Fn} (F : FunG K mg "rank_at" s_rank_at ["share", "many"]) (m_isinstance : mg "isinstance" = none) (m_tuple : mg "tuple" = none) (c_mul : Cal P w K mg base k "mul" 2 F_mul) : Cal P w K mg base (k + 1 + 1) "rank_at" 2 (runF 3 (g_rank_at F_mul)) := cal_of F sc_rank_at (der_rank_at m_isinstance m_tuple c_mul)

/-! share_bounds -/
abbrev s_share_bounds : Stmt := topS 17
abbrev n_share_bounds : List Str := ["share", "buckets", "many", "rank", "at", "k", "low"]
theorem sc_share_bounds : FnScope n_share_bounds ["share", "buckets"] (defScope s_share_bounds) := ⟨rfl, rfl, rfl, by decide +kernel, rfl, by decide +kernel, by decide +kernel⟩
noncomputable def g_share_bounds (F_rank_at : Fn) : Pv.Env → AS → SR := (sSeq (sAsg (gN 2) (eBin ixD (eBin ixD (eVar 1) (eUn negD (eC (.int 1)))) (eC (.int 1)))) (sSeq (sIf (tst (eBin eqD (eVar 2) (eC (.int 0)))) (sRet (eC .non)) sNx) (sSeq (sAsg (gN 3) (eCall 2 F_rank_at (aCons (eVar 0) (aCons (eVar 2) aNil)))) (sSeq (sAsg (gN 4) (eBin ixD (fLst (eLc [5] (wRng1 (aCons (eB (one lenOne) (aCons (eVar 1) aNil)) aNil)) (gN 5) (tst (eBin gtD (eBin ixD (eBin ixD (eVar 1) (eVar 5)) (eC (.int 1))) (eVar 3))) (eVar 5))) (eC (.int 0)))) (sSeq (sAsg (gN 6) (eIf (tst (eBin gtD (eVar 4) (eC (.int 0)))) (eBin ixD (eBin ixD (eVar 1) (eBin subD (eVar 4) (eC (.int 1)))) (eC (.int 0))) (eC .non))) (sRet (eTup (aCons (eVar 6) (aCons (eIf (tst (eBin eqD (eBin ixD (eBin ixD (eVar 1) (eVar 4)) (eC (.int 0))) (eC (.str "all")))) (eC .non) (eBin ixD (eBin ixD (eVar 1) (eVar 4)) (eC (.int 0)))) aNil)))))))))
noncomputable def F_share_bounds : Fn := runF 7 (g_share_bounds F_rank_at)
set_option maxRecDepth 20000 in
theorem der_share_bounds {P : Program} {w : World} {K : PySem.W.Frag} {mg : Str → Option Value} {base : Heap} {k : Nat} {F_rank_at : Fn} (m_range : mg "range" = none) (m_len : mg "len" = none) (c_rank_at : Cal P w K mg base k "rank_at" 2 F_rank_at) (f : Addr) (cdv : Value) (A : Around) (outer : List PySem.Env) (s : Shared) (H : Hp) (E : XK) (hr : Room (k + 1) (A.deeper (envOfC "share_bounds" (defScope s_share_bounds) s.heap.objs.size f cdv))) : ∃ t, PuSs (cxOf (L2.CX P w) P w K mg base n_share_bounds "share_bounds" (defScope s_share_bounds) f cdv A outer s H E) (WW.ofE E) (defBody s_share_bounds) t (g_share_bounds F_rank_at) := by
  have tk : Takes (cxOf (L2.CX P w) P w K mg base n_share_bounds "share_bounds" (defScope s_share_bounds) f cdv A outer s H E) (WW.ofE E).w := takes_of rfl rfl rfl rfl
  have po : PassesOwn (model P w) (cxOf (L2.CX P w) P w K mg base n_share_bounds "share_bounds" (defScope s_share_bounds) f cdv A outer s H E).A (cxOf (L2.CX P w) P w K mg base n_share_bounds "share_bounds" (defScope s_share_bounds) f cdv A outer s H E).env (cxOf (L2.CX P w) P w K mg base n_share_bounds "share_bounds" (defScope s_share_bounds) f cdv A outer s H E).xe := passes_of rfl
  have h0 : Room k (cxOf (L2.CX P w) P w K mg base n_share_bounds "share_bounds" (defScope s_share_bounds) f cdv A outer s H E).A := hr.mono (Nat.le_succ k)
  exact ⟨_, (puss_cons (by exact (pus_asg (by exact (pu_ix (PuE.toB (by exact (pu_ix (PuE.toB (pu_var (pv 1))) (PuE.toB (by exact (pu_un un_neg snd_neg (PuE.toB pu_int)))) (fun _ _ => rfl)))) (PuE.toB pu_int) (fun _ _ => rfl))) (pug_name (pg_name (i := 2) sc_share_bounds.nd rfl (by first | exact Or.inl rfl | exact Or.inr rfl))))) (puss_cons (by exact (pus_if (by exact (pt_cmp1 (op_eqX hr.units) snd_eq (PuE.toB (pu_var (pv 2))) (PuE.toB pu_int) (nomark _))) (puss_one (by exact (pus_ret pu_non))) puss_nil)) (puss_cons (by exact (pus_asg (by exact (pu_cal c_rank_at tk h0 (pu_cons (pu_var (pv 0)) (pu_cons (pu_var (pv 2)) pu_nil)))) (pug_name (pg_name (i := 3) sc_share_bounds.nd rfl (by first | exact Or.inl rfl | exact Or.inr rfl))))) (puss_cons (by exact (pus_asg (by exact (pu_ix (PuE.toB (by exact (PuF.toE (by exact (lcX (hlc := pu_lcX rfl sc_share_bounds.nd (pui_rng1 (by rfl) m_range (pu_cons (by exact (pu_callB rlen snd_len (by rfl) m_len bt_len (pc_cons (PuE.toB (pu_var (pv 1))) pc_nil))) pu_nil)) (blkOk_by (own := [("k", 5)]) (by first | (show blkC n_share_bounds (defScope s_share_bounds) _ _ = true; decide +kernel) | rfl)) (fun _ => ⟨_, (pug_name (pg_name (i := 5) sc_share_bounds.nd rfl (by first | exact Or.inl rfl | exact Or.inr rfl)))⟩) (by decide) (fun _ => ⟨_, (puts_one (by exact (pt_cmp1 op_gtIS snd_gt (PuE.toB (by exact (pu_ix (PuE.toB (by exact (pu_ix (PuE.toB (pu_var (pv 1))) (PuE.toB (pu_var (pv 5))) (fun _ _ => rfl)))) (PuE.toB pu_int) (fun _ _ => rfl)))) (PuE.toB (pu_var (pv 3))) (nomark _))))⟩) (fun _ => ⟨_, (pu_var (pv 5))⟩) s)))))) (PuE.toB pu_int) (fun _ _ => rfl))) (pug_name (pg_name (i := 4) sc_share_bounds.nd rfl (by first | exact Or.inl rfl | exact Or.inr rfl))))) (puss_cons (by exact (pus_asg (by exact (pu_if (by exact (pt_cmp1 op_gtIS snd_gt (PuE.toB (pu_var (pv 4))) (PuE.toB pu_int) (nomark _))) (by exact (pu_ix (PuE.toB (by exact (pu_ix (PuE.toB (pu_var (pv 1))) (PuE.toB (by exact (pu_bin op_subX snd_sub (PuE.toB (pu_var (pv 4))) (PuE.toB pu_int)))) (fun _ _ => rfl)))) (PuE.toB pu_int) (fun _ _ => rfl))) pu_non)) (pug_name (pg_name (i := 6) sc_share_bounds.nd rfl (by first | exact Or.inl rfl | exact Or.inr rfl))))) (puss_one (by exact (pus_ret (by exact (pu_tup (pu_cons (pu_var (pv 6)) (pu_cons (by exact (pu_if (by exact (pt_cmp1 (op_eqX hr.units) snd_eq (PuE.toB (by exact (pu_ix (PuE.toB (by exact (pu_ix (PuE.toB (pu_var (pv 1))) (PuE.toB (pu_var (pv 4))) (fun _ _ => rfl)))) (PuE.toB pu_int) (fun _ _ => rfl)))) (PuE.toB pu_str) (nomark _))) pu_non (by exact (pu_ix (PuE.toB (by exact (pu_ix (PuE.toB (pu_var (pv 1))) (PuE.toB (pu_var (pv 4))) (fun _ _ => rfl)))) (PuE.toB pu_int) (fun _ _ => rfl))))) pu_nil))))))))))))⟩
theorem cal_share_bounds {P : Program} {w : World} {K : PySem.W.Frag} {mg : Str → Option Value} {base : Heap} {k : Nat} {F_rank_at : Fn} (F : FunG K mg "share_bounds" s_share_bounds ["share", "buckets"]) (m_range : mg "range" = none) (m_len : mg "len" = none) (c_rank_at : Cal P w K mg base k "rank_at" 2 F_rank_at) : Cal P w K mg base (k + 1 + 1) "share_bounds" 2 (runF 7 (g_share_bounds F_rank_at)) := cal_of F sc_share_bounds (der_share_bounds m_range m_len c_rank_at)

/-! _law_draws -/
abbrev s__law_draws : Stmt := topS 19
abbrev n__law_draws : List Str := ["script"]
theorem sc__law_draws : FnScope n__law_draws ["script"] (defScope s__law_draws) := ⟨rfl, rfl, rfl, by decide +kernel, rfl, by decide +kernel, by decide +kernel⟩
noncomputable def g__law_draws : Pv.Env → AS → SR := (sRet (eCell (eLst (aCons (fLst (eBF (oneF listOne) (aCons (eVar 0) aNil))) (aCons (eC (.int 0)) (aCons (eC (.int 0)) (aCons (eC (.int 1)) aNil)))))))
noncomputable def F__law_draws : Fn := runF 1 (g__law_draws)
set_option maxRecDepth 20000 in
theorem der__law_draws {P : Program} {w : World} {K : PySem.W.Frag} {mg : Str → Option Value} {base : Heap} {k : Nat} (m_list : mg "list" = none) (f : Addr) (cdv : Value) (A : Around) (outer : List PySem.Env) (s : Shared) (H : Hp) (E : XK) (hr : Room (k + 1) (A.deeper (envOfC "_law_draws" (defScope s__law_draws) s.heap.objs.size f cdv))) : ∃ t, PuSs (cxOf (L2.CX P w) P w K mg base n__law_draws "_law_draws" (defScope s__law_draws) f cdv A outer s H E) (WW.ofE E) (defBody s__law_draws) t (g__law_draws) := by
  have tk : Takes (cxOf (L2.CX P w) P w K mg base n__law_draws "_law_draws" (defScope s__law_draws) f cdv A outer s H E) (WW.ofE E).w := takes_of rfl rfl rfl rfl
  have po : PassesOwn (model P w) (cxOf (L2.CX P w) P w K mg base n__law_draws "_law_draws" (defScope s__law_draws) f cdv A outer s H E).A (cxOf (L2.CX P w) P w K mg base n__law_draws "_law_draws" (defScope s__law_draws) f cdv A outer s H E).env (cxOf (L2.CX P w) P w K mg base n__law_draws "_law_draws" (defScope s__law_draws) f cdv A outer s H E).xe := passes_of rfl
  have h0 : Room k (cxOf (L2.CX P w) P w K mg base n__law_draws "_law_draws" (defScope s__law_draws) f cdv A outer s H E).A := hr.mono (Nat.le_succ k)
  exact ⟨_, (puss_one (by exact (pus_ret (by exact (PuF.cell (by exact (pu_lstF (pu_cons (by exact (PuF.toE (by exact (pu_callTyF rlist snd_listF (by rfl) m_list bt_list (pc_cons (PuE.toB (pu_var (pv 0))) pc_nil))))) (pu_cons pu_int (pu_cons pu_int (pu_cons pu_int pu_nil)))))))))))⟩
theorem cal__law_draws {P : Program} {w : World} {K : PySem.W.Frag} {mg : Str → Option Value} {base : Heap} {k : Nat} (F : FunG K mg "_law_draws" s__law_draws ["script"]) (m_list : mg "list" = none) : Cal P w K mg base (k + 1 + 1) "_law_draws" 1 (runF 1 (g__law_draws)) := cal_of F sc__law_draws (der__law_draws m_list)

/-! _law_draw -/
abbrev s__law_draw : Stmt := topS 20
abbrev n__law_draw : List Str := ["draws", "limit", "cell", "value"]
theorem sc__law_draw : FnScope n__law_draw ["draws", "limit"] (defScope s__law_draw) := ⟨rfl, rfl, rfl, by decide +kernel, rfl, by decide +kernel, by decide +kernel⟩
noncomputable def g__law_draw : Pv.Env → AS → SR := (sSeq (sIf (cAnd (tst (eBin eqD (eBin ixD (eVar 0) (eC (.int 2))) (eC (.int 0)))) (tst (eBin ltD (eBin ixD (eVar 0) (eC (.int 1))) (eB (one lenOne) (aCons (eBin ixD (eVar 0) (eC (.int 0))) aNil))))) (sSeq (sAsg (gN 2) (eBin ixD (eBin ixD (eVar 0) (eC (.int 0))) (eBin ixD (eVar 0) (eC (.int 1))))) (sSeq (sSetIx (eVar 0) (eC (.int 1)) (eBin addD (eBin ixD (eVar 0) (eC (.int 1))) (eC (.int 1)))) (sSeq (sIf (tst (eBin geD (eVar 2) (eBin powD (eC (.int 10)) (eC (.int 18))))) (sSetIx (eVar 0) (eC (.int 2)) (eVar 2)) sNx) (sSetIx (eVar 0) (eC (.int 3)) (eBin modD (eB (one intOne) (aCons (eBin addD (eBin addD (eBin mulD (eBin ixD (eVar 0) (eC (.int 3))) (eC (.int 48271))) (eVar 2)) (eC (.int 13))) aNil)) (eC (.int 2147483647))))))) sNx) (sSeq (sIf (tst (eBin gtD (eBin ixD (eVar 0) (eC (.int 2))) (eC (.int 0)))) (sSeq (sAsg (gN 3) (eBin modD (eB (one intOne) (aCons (eBin ixD (eVar 0) (eC (.int 2))) aNil)) (eVar 1))) (sSeq (sSetIx (eVar 0) (eC (.int 2)) (eBin fdivD (eBin ixD (eVar 0) (eC (.int 2))) (eVar 1))) (sRet (eVar 3)))) sNx) (sSeq (sSetIx (eVar 0) (eC (.int 3)) (eBin modD (eB (one intOne) (aCons (eBin addD (eBin mulD (eBin ixD (eVar 0) (eC (.int 3))) (eC (.int 69621))) (eC (.int 7))) aNil)) (eC (.int 2147483629)))) (sRet (eBin modD (eB (one intOne) (aCons (eBin fdivD (eBin ixD (eVar 0) (eC (.int 3))) (eC (.int 11))) aNil)) (eVar 1))))))
noncomputable def F__law_draw : Fn := runF 4 (g__law_draw)
set_option maxRecDepth 20000 in
theorem der__law_draw {P : Program} {w : World} {K : PySem.W.Frag} {mg : Str → Option Value} {base : Heap} {k : Nat} (m_len : mg "len" = none) (m_int : mg "int" = none) (f : Addr) (cdv : Value) (A : Around) (outer : List PySem.Env) (s : Shared) (H : Hp) (E : XK) (hr : Room (k + 1) (A.deeper (envOfC "_law_draw" (defScope s__law_draw) s.heap.objs.size f cdv))) : ∃ t, PuSs (cxOf (L2.CX P w) P w K mg base n__law_draw "_law_draw" (defScope s__law_draw) f cdv A outer s H E) (WW.ofE E) (defBody s__law_draw) t (g__law_draw) := by
  have tk : Takes (cxOf (L2.CX P w) P w K mg base n__law_draw "_law_draw" (defScope s__law_draw) f cdv A outer s H E) (WW.ofE E).w := takes_of rfl rfl rfl rfl
  have po : PassesOwn (model P w) (cxOf (L2.CX P w) P w K mg base n__law_draw "_law_draw" (defScope s__law_draw) f cdv A outer s H E).A (cxOf (L2.CX P w) P w K mg base n__law_draw "_law_draw" (defScope s__law_draw) f cdv A outer s H E).env (cxOf (L2.CX P w) P w K mg base n__law_draw "_law_draw" (defScope s__law_draw) f cdv A outer s H E).xe := passes_of rfl
  have h0 : Room k (cxOf (L2.CX P w) P w K mg base n__law_draw "_law_draw" (defScope s__law_draw) f cdv A outer s H E).A := hr.mono (Nat.le_succ k)
  exact ⟨_, (puss_cons (by exact (pus_if (by exact (PuW.pt (pw2_and (by exact (pt_cmp1 (op_eqX hr.units) snd_eq (PuE.toB (by exact (pu_ix (PuE.toB (pu_var (pv 0))) (PuE.toB pu_int) (fun _ _ => rfl)))) (PuE.toB pu_int) (nomark _))) (pw1_and (by exact (pt_cmp1 op_ltIS snd_lt (PuE.toB (by exact (pu_ix (PuE.toB (pu_var (pv 0))) (PuE.toB pu_int) (fun _ _ => rfl)))) (PuE.toB (by exact (pu_callB rlen snd_len (by rfl) m_len bt_len (pc_cons (PuE.toB (by exact (pu_ix (PuE.toB (pu_var (pv 0))) (PuE.toB pu_int) (fun _ _ => rfl)))) pc_nil)))) (nomark _))))))) (puss_cons (by exact (pus_asg (by exact (pu_ix (PuE.toB (by exact (pu_ix (PuE.toB (pu_var (pv 0))) (PuE.toB pu_int) (fun _ _ => rfl)))) (PuE.toB (by exact (pu_ix (PuE.toB (pu_var (pv 0))) (PuE.toB pu_int) (fun _ _ => rfl)))) (fun _ _ => rfl))) (pug_name (pg_name (i := 2) sc__law_draw.nd rfl (by first | exact Or.inl rfl | exact Or.inr rfl))))) (puss_cons (by exact (pus_setL (by exact (pu_bin op_addAll snd_add (PuE.toB (by exact (pu_ix (PuE.toB (pu_var (pv 0))) (PuE.toB pu_int) (fun _ _ => rfl)))) (PuE.toB pu_int))) (pu_var (pv 0)) pu_int)) (puss_cons (by exact (pus_if (by exact (pt_cmp1 op_geIS snd_ge (PuE.toB (pu_var (pv 2))) (PuE.toB (by exact (pu_bin op_pow snd_pow (PuE.toB pu_int) (PuE.toB pu_int)))) (nomark _))) (puss_one (by exact (pus_setL (pu_var (pv 2)) (pu_var (pv 0)) pu_int))) puss_nil)) (puss_one (by exact (pus_setL (by exact (pu_bin op_mod snd_mod (PuE.toB (by exact (pu_callTy call_int1 snd_int (by rfl) m_int bt_int (pc_cons (PuE.toB (by exact (pu_bin op_addAll snd_add (PuE.toB (by exact (pu_bin op_addAll snd_add (PuE.toB (by exact (pu_bin op_mulW snd_mul (PuE.toB (by exact (pu_ix (PuE.toB (pu_var (pv 0))) (PuE.toB pu_int) (fun _ _ => rfl)))) (PuE.toB pu_int)))) (PuE.toB (pu_var (pv 2)))))) (PuE.toB pu_int)))) pc_nil)))) (PuE.toB pu_int))) (pu_var (pv 0)) pu_int)))))) puss_nil)) (puss_cons (by exact (pus_if (by exact (pt_cmp1 op_gtIS snd_gt (PuE.toB (by exact (pu_ix (PuE.toB (pu_var (pv 0))) (PuE.toB pu_int) (fun _ _ => rfl)))) (PuE.toB pu_int) (nomark _))) (puss_cons (by exact (pus_asg (by exact (pu_bin op_mod snd_mod (PuE.toB (by exact (pu_callTy call_int1 snd_int (by rfl) m_int bt_int (pc_cons (PuE.toB (by exact (pu_ix (PuE.toB (pu_var (pv 0))) (PuE.toB pu_int) (fun _ _ => rfl)))) pc_nil)))) (PuE.toB (pu_var (pv 1))))) (pug_name (pg_name (i := 3) sc__law_draw.nd rfl (by first | exact Or.inl rfl | exact Or.inr rfl))))) (puss_cons (by exact (pus_setL (by exact (pu_bin op_fdivW snd_fdiv (PuE.toB (by exact (pu_ix (PuE.toB (pu_var (pv 0))) (PuE.toB pu_int) (fun _ _ => rfl)))) (PuE.toB (pu_var (pv 1))))) (pu_var (pv 0)) pu_int)) (puss_one (by exact (pus_ret (pu_var (pv 3))))))) puss_nil)) (puss_cons (by exact (pus_setL (by exact (pu_bin op_mod snd_mod (PuE.toB (by exact (pu_callTy call_int1 snd_int (by rfl) m_int bt_int (pc_cons (PuE.toB (by exact (pu_bin op_addAll snd_add (PuE.toB (by exact (pu_bin op_mulW snd_mul (PuE.toB (by exact (pu_ix (PuE.toB (pu_var (pv 0))) (PuE.toB pu_int) (fun _ _ => rfl)))) (PuE.toB pu_int)))) (PuE.toB pu_int)))) pc_nil)))) (PuE.toB pu_int))) (pu_var (pv 0)) pu_int)) (puss_one (by exact (pus_ret (by exact (pu_bin op_mod snd_mod (PuE.toB (by exact (pu_callTy call_int1 snd_int (by rfl) m_int bt_int (pc_cons (PuE.toB (by exact (pu_bin op_fdivW snd_fdiv (PuE.toB (by exact (pu_ix (PuE.toB (pu_var (pv 0))) (PuE.toB pu_int) (fun _ _ => rfl)))) (PuE.toB pu_int)))) pc_nil)))) (PuE.toB (pu_var (pv 1)))))))))))⟩
theorem cal__law_draw {P : Program} {w : World} {K : PySem.W.Frag} {mg : Str → Option Value} {base : Heap} {k : Nat} (F : FunG K mg "_law_draw" s__law_draw ["draws", "limit"]) (m_len : mg "len" = none) (m_int : mg "int" = none) : Cal P w K mg base (k + 1 + 1) "_law_draw" 2 (runF 4 (g__law_draw)) := cal_of F sc__law_draw (der__law_draw m_len m_int)

/-! _law_same -/
abbrev s__law_same : Stmt := topS 21
abbrev n__law_same : List Str := ["x", "due", "key", "right", "at"]
theorem sc__law_same : FnScope n__law_same ["x", "due"] (defScope s__law_same) := ⟨rfl, rfl, rfl, by decide +kernel, rfl, by decide +kernel, by decide +kernel⟩
noncomputable def g__law_same (F__law_same : Fn) : Pv.Env → AS → SR := (sSeq (sIf (tst (eBin isN (eVar 1) (eC .non))) (sRet (eBin isN (eVar 0) (eC .non))) sNx) (sSeq (sIf (tst (eUn (isiD "bool") (eVar 1))) (sRet (eAnd (eUn (isiD "bool") (eVar 0)) (eBin eqD (eVar 0) (eVar 1)))) sNx) (sSeq (sIf (tst (eUn (isiD "int") (eVar 1))) (sRet (eAnd (eUn (isiD "int") (eVar 0)) (eAnd (eNot (eUn (isiD "bool") (eVar 0))) (eBin eqD (eVar 0) (eVar 1))))) sNx) (sSeq (sIf (tst (eUn (isiD "str") (eVar 1))) (sRet (eAnd (eUn (isiD "str") (eVar 0)) (eBin eqD (eVar 0) (eVar 1)))) sNx) (sSeq (sIf (tst (eUn (isiD "dict") (eVar 1))) (sSeq (sIf (cOr (cNot (tst (eUn (isiD "dict") (eVar 0)))) (cOr (tst (eBin neD (eB (one lenOne) (aCons (eVar 0) aNil)) (eB (one lenOne) (aCons (eVar 1) aNil)))) (cNot (tst (eB (one allOne) (aCons (fLst (eLc [2] (wSeq (eVar 1)) (gN 2) cYes (eBin (inD false) (eVar 2) (eVar 0)))) aNil)))))) (sRet (eC (.bl false))) sNx) (sRet (eB (one allOne) (aCons (fLst (eLc [2] (wSeq (eVar 1)) (gN 2) cYes (eCall 2 F__law_same (aCons (eBin ixD (eVar 0) (eVar 2)) (aCons (eBin ixD (eVar 1) (eVar 2)) aNil))))) aNil)))) sNx) (sSeq (sIf (tst (eUn (isiD "list") (eVar 1))) (sAsg (gN 3) (eUn (isiD "list") (eVar 0))) (sAsg (gN 3) (eUn (isiD "tuple") (eVar 0)))) (sRet (eAnd (eVar 3) (eAnd (eBin eqD (eB (one lenOne) (aCons (eVar 0) aNil)) (eB (one lenOne) (aCons (eVar 1) aNil))) (eB (one allOne) (aCons (fLst (eLc [4] (wRng1 (aCons (eB (one lenOne) (aCons (eVar 1) aNil)) aNil)) (gN 4) cYes (eCall 2 F__law_same (aCons (eBin ixD (eVar 0) (eVar 4)) (aCons (eBin ixD (eVar 1) (eVar 4)) aNil))))) aNil)))))))))))
set_option maxRecDepth 20000 in
theorem der__law_same {P : Program} {w : World} {K : PySem.W.Frag} {mg : Str → Option Value} {base : Heap} {k : Nat} {F__law_same : Fn} (m_isinstance : mg "isinstance" = none) (m_bool : mg "bool" = none) (m_int : mg "int" = none) (m_str : mg "str" = none) (m_dict : mg "dict" = none) (m_len : mg "len" = none) (m_all : mg "all" = none) (m_list : mg "list" = none) (m_tuple : mg "tuple" = none) (m_range : mg "range" = none) (c__law_same : Cal P w K mg base k "_law_same" 2 F__law_same) (f : Addr) (cdv : Value) (A : Around) (outer : List PySem.Env) (s : Shared) (H : Hp) (E : XK) (hr : Room (k + 1) (A.deeper (envOfC "_law_same" (defScope s__law_same) s.heap.objs.size f cdv))) : ∃ t, PuSs (cxOf (L2.CX P w) P w K mg base n__law_same "_law_same" (defScope s__law_same) f cdv A outer s H E) (WW.ofE E) (defBody s__law_same) t (g__law_same F__law_same) := by
  have tk : Takes (cxOf (L2.CX P w) P w K mg base n__law_same "_law_same" (defScope s__law_same) f cdv A outer s H E) (WW.ofE E).w := takes_of rfl rfl rfl rfl
  have po : PassesOwn (model P w) (cxOf (L2.CX P w) P w K mg base n__law_same "_law_same" (defScope s__law_same) f cdv A outer s H E).A (cxOf (L2.CX P w) P w K mg base n__law_same "_law_same" (defScope s__law_same) f cdv A outer s H E).env (cxOf (L2.CX P w) P w K mg base n__law_same "_law_same" (defScope s__law_same) f cdv A outer s H E).xe := passes_of rfl
  have h0 : Room k (cxOf (L2.CX P w) P w K mg base n__law_same "_law_same" (defScope s__law_same) f cdv A outer s H E).A := hr.mono (Nat.le_succ k)
  exact ⟨_, (puss_cons (by exact (pus_if (by exact (pt_cmp1 op_isN snd_isN (PuE.toB (pu_var (pv 1))) (PuE.toB pu_non) (nomark _))) (puss_one (by exact (pus_ret (by exact (pu_cmp op_isN snd_isN (PuE.toB (pu_var (pv 0))) (PuE.toB pu_non) (nomark _)))))) puss_nil)) (puss_cons (by exact (pus_if (by exact (pt_valE (by exact (pu_isi rfl (PuE.toB (pu_var (pv 1))) (by rfl) m_isinstance (by rfl) m_bool bt_bool)))) (puss_one (by exact (pus_ret (by exact (pu_and (by exact (pu_isi rfl (PuE.toB (pu_var (pv 0))) (by rfl) m_isinstance (by rfl) m_bool bt_bool)) (pu_one (by exact (pu_cmp (op_eqX hr.units) snd_eq (PuE.toB (pu_var (pv 0))) (PuE.toB (pu_var (pv 1))) (nomark _))))))))) puss_nil)) (puss_cons (by exact (pus_if (by exact (pt_valE (by exact (pu_isi rfl (PuE.toB (pu_var (pv 1))) (by rfl) m_isinstance (by rfl) m_int bt_int)))) (puss_one (by exact (pus_ret (by exact (pu_and (by exact (pu_isi rfl (PuE.toB (pu_var (pv 0))) (by rfl) m_isinstance (by rfl) m_int bt_int)) (pu_and (by exact (pu_not (by exact (pu_isi rfl (PuE.toB (pu_var (pv 0))) (by rfl) m_isinstance (by rfl) m_bool bt_bool)))) (pu_one (by exact (pu_cmp (op_eqX hr.units) snd_eq (PuE.toB (pu_var (pv 0))) (PuE.toB (pu_var (pv 1))) (nomark _)))))))))) puss_nil)) (puss_cons (by exact (pus_if (by exact (pt_valE (by exact (pu_isi rfl (PuE.toB (pu_var (pv 1))) (by rfl) m_isinstance (by rfl) m_str bt_str)))) (puss_one (by exact (pus_ret (by exact (pu_and (by exact (pu_isi rfl (PuE.toB (pu_var (pv 0))) (by rfl) m_isinstance (by rfl) m_str bt_str)) (pu_one (by exact (pu_cmp (op_eqX hr.units) snd_eq (PuE.toB (pu_var (pv 0))) (PuE.toB (pu_var (pv 1))) (nomark _))))))))) puss_nil)) (puss_cons (by exact (pus_if (by exact (pt_valE (by exact (pu_isi rfl (PuE.toB (pu_var (pv 1))) (by rfl) m_isinstance (by rfl) m_dict bt_dict)))) (puss_cons (by exact (pus_if (by exact (PuW.pt (pw2_or (by exact (ptn_not (by exact (pt_valE (by exact (pu_isi rfl (PuE.toB (pu_var (pv 0))) (by rfl) m_isinstance (by rfl) m_dict bt_dict)))))) (pw2_or (by exact (pt_cmp1 (op_neX hr.units) snd_ne (PuE.toB (by exact (pu_callB rlen snd_len (by rfl) m_len bt_len (pc_cons (PuE.toB (pu_var (pv 0))) pc_nil)))) (PuE.toB (by exact (pu_callB rlen snd_len (by rfl) m_len bt_len (pc_cons (PuE.toB (pu_var (pv 1))) pc_nil)))) (nomark _))) (pw1_or (by exact (ptn_not (by exact (pt_valE (by exact (pu_callB (cr_all rfl) snd_all (by rfl) m_all bt_all (pc_cons (PuE.toB (by exact (PuF.toE (by exact (lcX (hlc := pu_lcX rfl sc__law_same.nd (pui_seq (pu_var (pv 1))) (blkOk_by (own := [("key", 2)]) (by first | (show blkC n__law_same (defScope s__law_same) _ _ = true; decide +kernel) | rfl)) (fun _ => ⟨_, (pug_name (pg_name (i := 2) sc__law_same.nd rfl (by first | exact Or.inl rfl | exact Or.inr rfl)))⟩) (by decide) (fun _ => ⟨_, puts_nil⟩) (fun _ => ⟨_, (by exact (pu_cmp (op_inAll (hu65 hr)) snd_in (PuE.toB (pu_var (pv 2))) (PuE.toB (pu_var (pv 0))) (by rfl)))⟩) s)))))) pc_nil)))))))))))) (puss_one (by exact (pus_ret pu_bl))) puss_nil)) (puss_one (by exact (pus_ret (by exact (pu_callB (cr_all rfl) snd_all (by rfl) m_all bt_all (pc_cons (PuE.toB (by exact (PuF.toE (by exact (lcX (hlc := pu_lcX rfl sc__law_same.nd (pui_seq (pu_var (pv 1))) (blkOk_by (own := [("key", 2)]) (by first | (show blkC n__law_same (defScope s__law_same) _ _ = true; decide +kernel) | rfl)) (fun _ => ⟨_, (pug_name (pg_name (i := 2) sc__law_same.nd rfl (by first | exact Or.inl rfl | exact Or.inr rfl)))⟩) (by decide) (fun _ => ⟨_, puts_nil⟩) (fun _ => ⟨_, (by exact (pu_cal c__law_same takes_none5 h0 (pu_cons (by exact (pu_ix (PuE.toB (pu_var (pv 0))) (PuE.toB (pu_var (pv 2))) (fun _ _ => rfl))) (pu_cons (by exact (pu_ix (PuE.toB (pu_var (pv 1))) (PuE.toB (pu_var (pv 2))) (fun _ _ => rfl))) pu_nil))))⟩) s)))))) pc_nil))))))) puss_nil)) (puss_cons (by exact (pus_if (by exact (pt_valE (by exact (pu_isi rfl (PuE.toB (pu_var (pv 1))) (by rfl) m_isinstance (by rfl) m_list bt_list)))) (puss_one (by exact (pus_asg (by exact (pu_isi rfl (PuE.toB (pu_var (pv 0))) (by rfl) m_isinstance (by rfl) m_list bt_list)) (pug_name (pg_name (i := 3) sc__law_same.nd rfl (by first | exact Or.inl rfl | exact Or.inr rfl)))))) (puss_one (by exact (pus_asg (by exact (pu_isi rfl (PuE.toB (pu_var (pv 0))) (by rfl) m_isinstance (by rfl) m_tuple bt_tuple)) (pug_name (pg_name (i := 3) sc__law_same.nd rfl (by first | exact Or.inl rfl | exact Or.inr rfl)))))))) (puss_one (by exact (pus_ret (by exact (pu_and (pu_var (pv 3)) (pu_and (by exact (pu_cmp (op_eqX hr.units) snd_eq (PuE.toB (by exact (pu_callB rlen snd_len (by rfl) m_len bt_len (pc_cons (PuE.toB (pu_var (pv 0))) pc_nil)))) (PuE.toB (by exact (pu_callB rlen snd_len (by rfl) m_len bt_len (pc_cons (PuE.toB (pu_var (pv 1))) pc_nil)))) (nomark _))) (pu_one (by exact (pu_callB (cr_all rfl) snd_all (by rfl) m_all bt_all (pc_cons (PuE.toB (by exact (PuF.toE (by exact (lcX (hlc := pu_lcX rfl sc__law_same.nd (pui_rng1 (by rfl) m_range (pu_cons (by exact (pu_callB rlen snd_len (by rfl) m_len bt_len (pc_cons (PuE.toB (pu_var (pv 1))) pc_nil))) pu_nil)) (blkOk_by (own := [("at", 4)]) (by first | (show blkC n__law_same (defScope s__law_same) _ _ = true; decide +kernel) | rfl)) (fun _ => ⟨_, (pug_name (pg_name (i := 4) sc__law_same.nd rfl (by first | exact Or.inl rfl | exact Or.inr rfl)))⟩) (by decide) (fun _ => ⟨_, puts_nil⟩) (fun _ => ⟨_, (by exact (pu_cal c__law_same takes_none5 h0 (pu_cons (by exact (pu_ix (PuE.toB (pu_var (pv 0))) (PuE.toB (pu_var (pv 4))) (fun _ _ => rfl))) (pu_cons (by exact (pu_ix (PuE.toB (pu_var (pv 1))) (PuE.toB (pu_var (pv 4))) (fun _ _ => rfl))) pu_nil))))⟩) s)))))) pc_nil))))))))))))))))⟩
theorem cal__law_same {P : Program} {w : World} {K : PySem.W.Frag} {mg : Str → Option Value} {base : Heap} {k : Nat} {F__law_same : Fn} (F : FunG K mg "_law_same" s__law_same ["x", "due"]) (m_isinstance : mg "isinstance" = none) (m_bool : mg "bool" = none) (m_int : mg "int" = none) (m_str : mg "str" = none) (m_dict : mg "dict" = none) (m_len : mg "len" = none) (m_all : mg "all" = none) (m_list : mg "list" = none) (m_tuple : mg "tuple" = none) (m_range : mg "range" = none) (c__law_same : Cal P w K mg base k "_law_same" 2 F__law_same) : Cal P w K mg base (k + 1 + 1) "_law_same" 2 (runF 5 (g__law_same F__law_same)) := cal_of F sc__law_same (der__law_same m_isinstance m_bool m_int m_str m_dict m_len m_all m_list m_tuple m_range c__law_same)

/-! _law_copy -/
abbrev s__law_copy : Stmt := topS 22
abbrev n__law_copy : List Str := ["thing", "part", "found", "key"]
theorem sc__law_copy : FnScope n__law_copy ["thing"] (defScope s__law_copy) := ⟨rfl, rfl, rfl, by decide +kernel, rfl, by decide +kernel, by decide +kernel⟩
noncomputable def b__law_copy_1 (F__law_copy : Fn) : Pv.Env → AS → SR := (sFrz 2 (sSetIx (eVar 2) (eVar 3) (eCall 1 F__law_copy (aCons (eBin ixD (eVar 0) (eVar 3)) aNil))))
noncomputable def g__law_copy (F__law_copy : Fn) : Pv.Env → AS → SR := (sSeq (sIf (tst (eUn (isiD "list") (eVar 0))) (sRet (fLst (eLc [1] (wSeq (eVar 0)) (gN 1) cYes (eCall 1 F__law_copy (aCons (eVar 1) aNil))))) sNx) (sSeq (sIf (tst (eUn (isiD "tuple") (eVar 0))) (sRet (eB (one tupOne) (aCons (fLst (eLc [1] (wSeq (eVar 0)) (gN 1) cYes (eCall 1 F__law_copy (aCons (eVar 1) aNil)))) aNil))) sNx) (sSeq (sIf (tst (eUn (isiD "dict") (eVar 0))) (sSeq (sAsg (gN 2) eNo) (sSeq (sFor (wSeq (eVar 0)) (gN 3) (b__law_copy_1 F__law_copy)) (sFrz 2 (sRet (eVar 2))))) sNx) (sRet (eVar 0)))))
set_option maxRecDepth 20000 in
theorem der__law_copy {P : Program} {w : World} {K : PySem.W.Frag} {mg : Str → Option Value} {base : Heap} {k : Nat} {F__law_copy : Fn} (m_isinstance : mg "isinstance" = none) (m_list : mg "list" = none) (m_tuple : mg "tuple" = none) (m_dict : mg "dict" = none) (c__law_copy : Cal P w K mg base k "_law_copy" 1 F__law_copy) (f : Addr) (cdv : Value) (A : Around) (outer : List PySem.Env) (s : Shared) (H : Hp) (E : XK) (hr : Room (k + 1) (A.deeper (envOfC "_law_copy" (defScope s__law_copy) s.heap.objs.size f cdv))) : ∃ t, PuSs (cxOf (L2.CX P w) P w K mg base n__law_copy "_law_copy" (defScope s__law_copy) f cdv A outer s H E) (WW.ofE E) (defBody s__law_copy) t (g__law_copy F__law_copy) := by
  have tk : Takes (cxOf (L2.CX P w) P w K mg base n__law_copy "_law_copy" (defScope s__law_copy) f cdv A outer s H E) (WW.ofE E).w := takes_of rfl rfl rfl rfl
  have po : PassesOwn (model P w) (cxOf (L2.CX P w) P w K mg base n__law_copy "_law_copy" (defScope s__law_copy) f cdv A outer s H E).A (cxOf (L2.CX P w) P w K mg base n__law_copy "_law_copy" (defScope s__law_copy) f cdv A outer s H E).env (cxOf (L2.CX P w) P w K mg base n__law_copy "_law_copy" (defScope s__law_copy) f cdv A outer s H E).xe := passes_of rfl
  have h0 : Room k (cxOf (L2.CX P w) P w K mg base n__law_copy "_law_copy" (defScope s__law_copy) f cdv A outer s H E).A := hr.mono (Nat.le_succ k)
  exact ⟨_, (puss_cons (by exact (pus_if (by exact (pt_valE (by exact (pu_isi rfl (PuE.toB (pu_var (pv 0))) (by rfl) m_isinstance (by rfl) m_list bt_list)))) (puss_one (by exact (pus_ret (by exact (PuF.toE (by exact (lcX (hlc := pu_lcX rfl sc__law_copy.nd (pui_seq (pu_var (pv 0))) (blkOk_by (own := [("part", 1)]) (by first | (show blkC n__law_copy (defScope s__law_copy) _ _ = true; decide +kernel) | rfl)) (fun _ => ⟨_, (pug_name (pg_name (i := 1) sc__law_copy.nd rfl (by first | exact Or.inl rfl | exact Or.inr rfl)))⟩) (by decide) (fun _ => ⟨_, puts_nil⟩) (fun _ => ⟨_, (by exact (pu_cal c__law_copy takes_none5 h0 (pu_cons (pu_var (pv 1)) pu_nil)))⟩) s)))))))) puss_nil)) (puss_cons (by exact (pus_if (by exact (pt_valE (by exact (pu_isi rfl (PuE.toB (pu_var (pv 0))) (by rfl) m_isinstance (by rfl) m_tuple bt_tuple)))) (puss_one (by exact (pus_ret (by exact (pu_callTy rtuple snd_tuple (by rfl) m_tuple bt_tuple (pc_cons (PuE.toB (by exact (PuF.toE (by exact (lcX (hlc := pu_lcX rfl sc__law_copy.nd (pui_seq (pu_var (pv 0))) (blkOk_by (own := [("part", 1)]) (by first | (show blkC n__law_copy (defScope s__law_copy) _ _ = true; decide +kernel) | rfl)) (fun _ => ⟨_, (pug_name (pg_name (i := 1) sc__law_copy.nd rfl (by first | exact Or.inl rfl | exact Or.inr rfl)))⟩) (by decide) (fun _ => ⟨_, puts_nil⟩) (fun _ => ⟨_, (by exact (pu_cal c__law_copy takes_none5 h0 (pu_cons (pu_var (pv 1)) pu_nil)))⟩) s)))))) pc_nil)))))) puss_nil)) (puss_cons (by exact (pus_if (by exact (pt_valE (by exact (pu_isi rfl (PuE.toB (pu_var (pv 0))) (by rfl) m_isinstance (by rfl) m_dict bt_dict)))) (puss_cons (by exact (pus_asg pu_no (pug_name (pg_name (i := 2) sc__law_copy.nd rfl (by first | exact Or.inl rfl | exact Or.inr rfl))))) (puss_cons (by exact (pus_for po rfl (pui_seq (pu_var (pv 0))) (pug_name (pg_name (i := 3) sc__law_copy.nd rfl (by first | exact Or.inl rfl | exact Or.inr rfl))) (puss_one (PuS.frz 2 (by exact (pus_setL (by exact (pu_cal c__law_copy tk h0 (pu_cons (by exact (pu_ix (PuE.toB (pu_var (pv 0))) (PuE.toB (pu_var (pv 3))) (fun _ _ => rfl))) pu_nil))) (pu_var (pv 2)) (pu_var (pv 3)))))))) (puss_one (PuS.frz 2 (by exact (pus_ret (pu_var (pv 2)))))))) puss_nil)) (puss_one (by exact (pus_ret (pu_var (pv 0))))))))⟩
theorem cal__law_copy {P : Program} {w : World} {K : PySem.W.Frag} {mg : Str → Option Value} {base : Heap} {k : Nat} {F__law_copy : Fn} (F : FunG K mg "_law_copy" s__law_copy ["thing"]) (m_isinstance : mg "isinstance" = none) (m_list : mg "list" = none) (m_tuple : mg "tuple" = none) (m_dict : mg "dict" = none) (c__law_copy : Cal P w K mg base k "_law_copy" 1 F__law_copy) : Cal P w K mg base (k + 1 + 1) "_law_copy" 1 (runF 4 (g__law_copy F__law_copy)) := cal_of F sc__law_copy (der__law_copy m_isinstance m_list m_tuple m_dict c__law_copy)

/-! _law_exact -/
abbrev s__law_exact : Stmt := topS 23
abbrev n__law_exact : List Str := ["above", "below", "a", "b"]
theorem sc__law_exact : FnScope n__law_exact ["above", "below"] (defScope s__law_exact) := ⟨rfl, rfl, rfl, by decide +kernel, rfl, by decide +kernel, by decide +kernel⟩
noncomputable def b__law_exact_1 : Pv.Env → AS → SR := (sPar (.sh (eVar 3)) (.sh (eBin modD (eB (one intOne) (aCons (eVar 2) aNil)) (eVar 3))) 2 3)
noncomputable def g__law_exact : Pv.Env → AS → SR := (sSeq (sIf (tst (eBin ltD (eVar 1) (eC (.int 0)))) (sPar (.sh (eBin subD (eC (.int 0)) (eVar 0))) (.sh (eBin subD (eC (.int 0)) (eVar 1))) 0 1) sNx) (sSeq (sPar (.sh (eB maxD (aCons (eVar 0) (aCons (eBin subD (eC (.int 0)) (eVar 0)) aNil)))) (.sh (eVar 1)) 2 3) (sSeq (sWhile (tst (eBin gtD (eVar 3) (eC (.int 0)))) (b__law_exact_1)) (sRet (eIf (tst (eBin eqD (eVar 1) (eVar 2))) (eBin fdivD (eVar 0) (eVar 2)) (eTup (aCons (eBin fdivD (eVar 0) (eVar 2)) (aCons (eBin fdivD (eVar 1) (eVar 2)) aNil))))))))
noncomputable def F__law_exact : Fn := runF 4 (g__law_exact)
set_option maxRecDepth 20000 in
theorem der__law_exact {P : Program} {w : World} {K : PySem.W.Frag} {mg : Str → Option Value} {base : Heap} {k : Nat} (m_max : mg "max" = none) (m_int : mg "int" = none) (f : Addr) (cdv : Value) (A : Around) (outer : List PySem.Env) (s : Shared) (H : Hp) (E : XK) (hr : Room (k + 1) (A.deeper (envOfC "_law_exact" (defScope s__law_exact) s.heap.objs.size f cdv))) : ∃ t, PuSs (cxOf (L2.CX P w) P w K mg base n__law_exact "_law_exact" (defScope s__law_exact) f cdv A outer s H E) (WW.ofE E) (defBody s__law_exact) t (g__law_exact) := by
  have tk : Takes (cxOf (L2.CX P w) P w K mg base n__law_exact "_law_exact" (defScope s__law_exact) f cdv A outer s H E) (WW.ofE E).w := takes_of rfl rfl rfl rfl
  have po : PassesOwn (model P w) (cxOf (L2.CX P w) P w K mg base n__law_exact "_law_exact" (defScope s__law_exact) f cdv A outer s H E).A (cxOf (L2.CX P w) P w K mg base n__law_exact "_law_exact" (defScope s__law_exact) f cdv A outer s H E).env (cxOf (L2.CX P w) P w K mg base n__law_exact "_law_exact" (defScope s__law_exact) f cdv A outer s H E).xe := passes_of rfl
  have h0 : Room k (cxOf (L2.CX P w) P w K mg base n__law_exact "_law_exact" (defScope s__law_exact) f cdv A outer s H E).A := hr.mono (Nat.le_succ k)
  exact ⟨_, (puss_cons (by exact (pus_if (by exact (pt_cmp1 op_ltIS snd_lt (PuE.toB (pu_var (pv 1))) (PuE.toB pu_int) (nomark _))) (puss_one (by exact (pus_par (i := 0) (j := 1) rfl sc__law_exact.nd rfl rfl (by decide) rfl rfl (PuE.pas (by exact (pu_bin op_subX snd_sub (PuE.toB pu_int) (PuE.toB (pu_var (pv 0)))))) (PuE.pas (by exact (pu_bin op_subX snd_sub (PuE.toB pu_int) (PuE.toB (pu_var (pv 1)))))) (by rfl)))) puss_nil)) (puss_cons (by exact (pus_par (i := 2) (j := 3) rfl sc__law_exact.nd rfl rfl (by decide) rfl rfl (PuE.pas (by exact (pu_callB (call_maxX rfl) snd_max (by rfl) m_max bt_max (pc_cons (PuE.toB (pu_var (pv 0))) (pc_cons (PuE.toB (by exact (pu_bin op_subX snd_sub (PuE.toB pu_int) (PuE.toB (pu_var (pv 0)))))) pc_nil))))) (PuE.pas (pu_var (pv 1))) (by rfl))) (puss_cons (by exact (pus_while po (by exact (pt_cmp1 op_gtIS snd_gt (PuE.toB (pu_var (pv 3))) (PuE.toB pu_int) (nomark _))) (puss_one (by exact (pus_par (i := 2) (j := 3) rfl sc__law_exact.nd rfl rfl (by decide) rfl rfl (PuE.pas (pu_var (pv 3))) (PuE.pas (by exact (pu_bin op_mod snd_mod (PuE.toB (by exact (pu_callTy call_int1 snd_int (by rfl) m_int bt_int (pc_cons (PuE.toB (pu_var (pv 2))) pc_nil)))) (PuE.toB (pu_var (pv 3)))))) (by rfl)))))) (puss_one (by exact (pus_ret (by exact (pu_if (by exact (pt_cmp1 (op_eqX hr.units) snd_eq (PuE.toB (pu_var (pv 1))) (PuE.toB (pu_var (pv 2))) (nomark _))) (by exact (pu_bin op_fdivW snd_fdiv (PuE.toB (pu_var (pv 0))) (PuE.toB (pu_var (pv 2))))) (by exact (pu_tup (pu_cons (by exact (pu_bin op_fdivW snd_fdiv (PuE.toB (pu_var (pv 0))) (PuE.toB (pu_var (pv 2))))) (pu_cons (by exact (pu_bin op_fdivW snd_fdiv (PuE.toB (pu_var (pv 1))) (PuE.toB (pu_var (pv 2))))) pu_nil))))))))))))⟩
theorem cal__law_exact {P : Program} {w : World} {K : PySem.W.Frag} {mg : Str → Option Value} {base : Heap} {k : Nat} (F : FunG K mg "_law_exact" s__law_exact ["above", "below"]) (m_max : mg "max" = none) (m_int : mg "int" = none) : Cal P w K mg base (k + 1 + 1) "_law_exact" 2 (runF 4 (g__law_exact)) := cal_of F sc__law_exact (der__law_exact m_max m_int)

/-! _law_two -/
abbrev s__law_two : Stmt := topS 24
abbrev n__law_two : List Str := ["number"]
theorem sc__law_two : FnScope n__law_two ["number"] (defScope s__law_two) := ⟨rfl, rfl, rfl, by decide +kernel, rfl, by decide +kernel, by decide +kernel⟩
noncomputable def g__law_two : Pv.Env → AS → SR := (sRet (eIf (tst (eUn (isiD "tuple") (eVar 0))) (eVar 0) (eTup (aCons (eVar 0) (aCons (eC (.int 1)) aNil)))))
noncomputable def F__law_two : Fn := runF 1 (g__law_two)
set_option maxRecDepth 20000 in
theorem der__law_two {P : Program} {w : World} {K : PySem.W.Frag} {mg : Str → Option Value} {base : Heap} {k : Nat} (m_isinstance : mg "isinstance" = none) (m_tuple : mg "tuple" = none) (f : Addr) (cdv : Value) (A : Around) (outer : List PySem.Env) (s : Shared) (H : Hp) (E : XK) (hr : Room (k + 1) (A.deeper (envOfC "_law_two" (defScope s__law_two) s.heap.objs.size f cdv))) : ∃ t, PuSs (cxOf (L2.CX P w) P w K mg base n__law_two "_law_two" (defScope s__law_two) f cdv A outer s H E) (WW.ofE E) (defBody s__law_two) t (g__law_two) := by
  have tk : Takes (cxOf (L2.CX P w) P w K mg base n__law_two "_law_two" (defScope s__law_two) f cdv A outer s H E) (WW.ofE E).w := takes_of rfl rfl rfl rfl
  have po : PassesOwn (model P w) (cxOf (L2.CX P w) P w K mg base n__law_two "_law_two" (defScope s__law_two) f cdv A outer s H E).A (cxOf (L2.CX P w) P w K mg base n__law_two "_law_two" (defScope s__law_two) f cdv A outer s H E).env (cxOf (L2.CX P w) P w K mg base n__law_two "_law_two" (defScope s__law_two) f cdv A outer s H E).xe := passes_of rfl
  have h0 : Room k (cxOf (L2.CX P w) P w K mg base n__law_two "_law_two" (defScope s__law_two) f cdv A outer s H E).A := hr.mono (Nat.le_succ k)
  exact ⟨_, (puss_one (by exact (pus_ret (by exact (pu_if (by exact (pt_valE (by exact (pu_isi rfl (PuE.toB (pu_var (pv 0))) (by rfl) m_isinstance (by rfl) m_tuple bt_tuple)))) (pu_var (pv 0)) (by exact (pu_tup (pu_cons (pu_var (pv 0)) (pu_cons pu_int pu_nil)))))))))⟩
theorem cal__law_two {P : Program} {w : World} {K : PySem.W.Frag} {mg : Str → Option Value} {base : Heap} {k : Nat} (F : FunG K mg "_law_two" s__law_two ["number"]) (m_isinstance : mg "isinstance" = none) (m_tuple : mg "tuple" = none) : Cal P w K mg base (k + 1 + 1) "_law_two" 1 (runF 1 (g__law_two)) := cal_of F sc__law_two (der__law_two m_isinstance m_tuple)

/-! _law_mul -/
abbrev s__law_mul : Stmt := topS 25
abbrev n__law_mul : List Str := ["one", "other", "a", "b", "c", "d"]
theorem sc__law_mul : FnScope n__law_mul ["one", "other"] (defScope s__law_mul) := ⟨rfl, rfl, rfl, by decide +kernel, rfl, by decide +kernel, by decide +kernel⟩
noncomputable def g__law_mul (F__law_two : Fn) (F__law_exact : Fn) : Pv.Env → AS → SR := (sSeq (sAsg (gT 2 (gsCons (gN 2) (gsCons (gN 3) gsNil))) (eCall 1 F__law_two (aCons (eVar 0) aNil))) (sSeq (sAsg (gT 2 (gsCons (gN 4) (gsCons (gN 5) gsNil))) (eCall 1 F__law_two (aCons (eVar 1) aNil))) (sRet (eCall 2 F__law_exact (aCons (eBin mulD (eVar 2) (eVar 4)) (aCons (eBin mulD (eVar 3) (eVar 5)) aNil))))))
noncomputable def F__law_mul : Fn := runF 6 (g__law_mul F__law_two F__law_exact)
set_option maxRecDepth 20000 in
theorem der__law_mul {P : Program} {w : World} {K : PySem.W.Frag} {mg : Str → Option Value} {base : Heap} {k : Nat} {F__law_two : Fn} {F__law_exact : Fn} (c__law_two : Cal P w K mg base k "_law_two" 1 F__law_two) (c__law_exact : Cal P w K mg base k "_law_exact" 2 F__law_exact) (f : Addr) (cdv : Value) (A : Around) (outer : List PySem.Env) (s : Shared) (H : Hp) (E : XK) (hr : Room (k + 1) (A.deeper (envOfC "_law_mul" (defScope s__law_mul) s.heap.objs.size f cdv))) : ∃ t, PuSs (cxOf (L2.CX P w) P w K mg base n__law_mul "_law_mul" (defScope s__law_mul) f cdv A outer s H E) (WW.ofE E) (defBody s__law_mul) t (g__law_mul F__law_two F__law_exact) := by
  have tk : Takes (cxOf (L2.CX P w) P w K mg base n__law_mul "_law_mul" (defScope s__law_mul) f cdv A outer s H E) (WW.ofE E).w := takes_of rfl rfl rfl rfl
  have po : PassesOwn (model P w) (cxOf (L2.CX P w) P w K mg base n__law_mul "_law_mul" (defScope s__law_mul) f cdv A outer s H E).A (cxOf (L2.CX P w) P w K mg base n__law_mul "_law_mul" (defScope s__law_mul) f cdv A outer s H E).env (cxOf (L2.CX P w) P w K mg base n__law_mul "_law_mul" (defScope s__law_mul) f cdv A outer s H E).xe := passes_of rfl
  have h0 : Room k (cxOf (L2.CX P w) P w K mg base n__law_mul "_law_mul" (defScope s__law_mul) f cdv A outer s H E).A := hr.mono (Nat.le_succ k)
  exact ⟨_, (puss_cons (by exact (pus_asg (by exact (pu_cal c__law_two tk h0 (pu_cons (pu_var (pv 0)) pu_nil))) (pug_tup rfl (pugs_cons (pug_name (pg_name (i := 2) sc__law_mul.nd rfl (by first | exact Or.inl rfl | exact Or.inr rfl))) (pugs_cons (pug_name (pg_name (i := 3) sc__law_mul.nd rfl (by first | exact Or.inl rfl | exact Or.inr rfl))) pugs_nil))))) (puss_cons (by exact (pus_asg (by exact (pu_cal c__law_two tk h0 (pu_cons (pu_var (pv 1)) pu_nil))) (pug_tup rfl (pugs_cons (pug_name (pg_name (i := 4) sc__law_mul.nd rfl (by first | exact Or.inl rfl | exact Or.inr rfl))) (pugs_cons (pug_name (pg_name (i := 5) sc__law_mul.nd rfl (by first | exact Or.inl rfl | exact Or.inr rfl))) pugs_nil))))) (puss_one (by exact (pus_ret (by exact (pu_cal c__law_exact tk h0 (pu_cons (by exact (pu_bin op_mulW snd_mul (PuE.toB (pu_var (pv 2))) (PuE.toB (pu_var (pv 4))))) (pu_cons (by exact (pu_bin op_mulW snd_mul (PuE.toB (pu_var (pv 3))) (PuE.toB (pu_var (pv 5))))) pu_nil)))))))))⟩
theorem cal__law_mul {P : Program} {w : World} {K : PySem.W.Frag} {mg : Str → Option Value} {base : Heap} {k : Nat} {F__law_two : Fn} {F__law_exact : Fn} (F : FunG K mg "_law_mul" s__law_mul ["one", "other"]) (c__law_two : Cal P w K mg base k "_law_two" 1 F__law_two) (c__law_exact : Cal P w K mg base k "_law_exact" 2 F__law_exact) : Cal P w K mg base (k + 1 + 1) "_law_mul" 2 (runF 6 (g__law_mul F__law_two F__law_exact)) := cal_of F sc__law_mul (der__law_mul c__law_two c__law_exact)

/-! _law_less -/
abbrev s__law_less : Stmt := topS 26
abbrev n__law_less : List Str := ["one", "other", "a", "b", "c", "d"]
theorem sc__law_less : FnScope n__law_less ["one", "other"] (defScope s__law_less) := ⟨rfl, rfl, rfl, by decide +kernel, rfl, by decide +kernel, by decide +kernel⟩
noncomputable def g__law_less (F__law_two : Fn) : Pv.Env → AS → SR := (sSeq (sAsg (gT 2 (gsCons (gN 2) (gsCons (gN 3) gsNil))) (eCall 1 F__law_two (aCons (eVar 0) aNil))) (sSeq (sAsg (gT 2 (gsCons (gN 4) (gsCons (gN 5) gsNil))) (eCall 1 F__law_two (aCons (eVar 1) aNil))) (sRet (eBin ltD (eBin mulD (eVar 2) (eVar 5)) (eBin mulD (eVar 4) (eVar 3))))))
noncomputable def F__law_less : Fn := runF 6 (g__law_less F__law_two)
set_option maxRecDepth 20000 in
theorem der__law_less {P : Program} {w : World} {K : PySem.W.Frag} {mg : Str → Option Value} {base : Heap} {k : Nat} {F__law_two : Fn} (c__law_two : Cal P w K mg base k "_law_two" 1 F__law_two) (f : Addr) (cdv : Value) (A : Around) (outer : List PySem.Env) (s : Shared) (H : Hp) (E : XK) (hr : Room (k + 1) (A.deeper (envOfC "_law_less" (defScope s__law_less) s.heap.objs.size f cdv))) : ∃ t, PuSs (cxOf (L2.CX P w) P w K mg base n__law_less "_law_less" (defScope s__law_less) f cdv A outer s H E) (WW.ofE E) (defBody s__law_less) t (g__law_less F__law_two) := by
  have tk : Takes (cxOf (L2.CX P w) P w K mg base n__law_less "_law_less" (defScope s__law_less) f cdv A outer s H E) (WW.ofE E).w := takes_of rfl rfl rfl rfl
  have po : PassesOwn (model P w) (cxOf (L2.CX P w) P w K mg base n__law_less "_law_less" (defScope s__law_less) f cdv A outer s H E).A (cxOf (L2.CX P w) P w K mg base n__law_less "_law_less" (defScope s__law_less) f cdv A outer s H E).env (cxOf (L2.CX P w) P w K mg base n__law_less "_law_less" (defScope s__law_less) f cdv A outer s H E).xe := passes_of rfl
  have h0 : Room k (cxOf (L2.CX P w) P w K mg base n__law_less "_law_less" (defScope s__law_less) f cdv A outer s H E).A := hr.mono (Nat.le_succ k)
  exact ⟨_, (puss_cons (by exact (pus_asg (by exact (pu_cal c__law_two tk h0 (pu_cons (pu_var (pv 0)) pu_nil))) (pug_tup rfl (pugs_cons (pug_name (pg_name (i := 2) sc__law_less.nd rfl (by first | exact Or.inl rfl | exact Or.inr rfl))) (pugs_cons (pug_name (pg_name (i := 3) sc__law_less.nd rfl (by first | exact Or.inl rfl | exact Or.inr rfl))) pugs_nil))))) (puss_cons (by exact (pus_asg (by exact (pu_cal c__law_two tk h0 (pu_cons (pu_var (pv 1)) pu_nil))) (pug_tup rfl (pugs_cons (pug_name (pg_name (i := 4) sc__law_less.nd rfl (by first | exact Or.inl rfl | exact Or.inr rfl))) (pugs_cons (pug_name (pg_name (i := 5) sc__law_less.nd rfl (by first | exact Or.inl rfl | exact Or.inr rfl))) pugs_nil))))) (puss_one (by exact (pus_ret (by exact (pu_cmp op_ltIS snd_lt (PuE.toB (by exact (pu_bin op_mulW snd_mul (PuE.toB (pu_var (pv 2))) (PuE.toB (pu_var (pv 5)))))) (PuE.toB (by exact (pu_bin op_mulW snd_mul (PuE.toB (pu_var (pv 4))) (PuE.toB (pu_var (pv 3)))))) (nomark _))))))))⟩
theorem cal__law_less {P : Program} {w : World} {K : PySem.W.Frag} {mg : Str → Option Value} {base : Heap} {k : Nat} {F__law_two : Fn} (F : FunG K mg "_law_less" s__law_less ["one", "other"]) (c__law_two : Cal P w K mg base k "_law_two" 1 F__law_two) : Cal P w K mg base (k + 1 + 1) "_law_less" 2 (runF 6 (g__law_less F__law_two)) := cal_of F sc__law_less (der__law_less c__law_two)

/-! _law_number -/
abbrev s__law_number : Stmt := topS 27
abbrev n__law_number : List Str := ["draws"]
theorem sc__law_number : FnScope n__law_number ["draws"] (defScope s__law_number) := ⟨rfl, rfl, rfl, by decide +kernel, rfl, by decide +kernel, by decide +kernel⟩
noncomputable def g__law_number (F__law_exact : Fn) (F__law_draw : Fn) : Pv.Env → AS → SR := (sRet (eCall 2 F__law_exact (aCons (eBin subD (eCall 2 F__law_draw (aCons (eVar 0) (aCons (eC (.int 41)) aNil))) (eC (.int 20))) (aCons (eBin ixD (fLst (eLst (aCons (eC (.int 1)) (aCons (eC (.int 1)) (aCons (eC (.int 2)) (aCons (eC (.int 3)) aNil)))))) (eCall 2 F__law_draw (aCons (eVar 0) (aCons (eC (.int 4)) aNil)))) aNil))))
noncomputable def F__law_number : Fn := runF 1 (g__law_number F__law_exact F__law_draw)
set_option maxRecDepth 20000 in
theorem der__law_number {P : Program} {w : World} {K : PySem.W.Frag} {mg : Str → Option Value} {base : Heap} {k : Nat} {F__law_exact : Fn} {F__law_draw : Fn} (c__law_exact : Cal P w K mg base k "_law_exact" 2 F__law_exact) (c__law_draw : Cal P w K mg base k "_law_draw" 2 F__law_draw) (f : Addr) (cdv : Value) (A : Around) (outer : List PySem.Env) (s : Shared) (H : Hp) (E : XK) (hr : Room (k + 1) (A.deeper (envOfC "_law_number" (defScope s__law_number) s.heap.objs.size f cdv))) : ∃ t, PuSs (cxOf (L2.CX P w) P w K mg base n__law_number "_law_number" (defScope s__law_number) f cdv A outer s H E) (WW.ofE E) (defBody s__law_number) t (g__law_number F__law_exact F__law_draw) := by
  have tk : Takes (cxOf (L2.CX P w) P w K mg base n__law_number "_law_number" (defScope s__law_number) f cdv A outer s H E) (WW.ofE E).w := takes_of rfl rfl rfl rfl
  have po : PassesOwn (model P w) (cxOf (L2.CX P w) P w K mg base n__law_number "_law_number" (defScope s__law_number) f cdv A outer s H E).A (cxOf (L2.CX P w) P w K mg base n__law_number "_law_number" (defScope s__law_number) f cdv A outer s H E).env (cxOf (L2.CX P w) P w K mg base n__law_number "_law_number" (defScope s__law_number) f cdv A outer s H E).xe := passes_of rfl
  have h0 : Room k (cxOf (L2.CX P w) P w K mg base n__law_number "_law_number" (defScope s__law_number) f cdv A outer s H E).A := hr.mono (Nat.le_succ k)
  exact ⟨_, (puss_one (by exact (pus_ret (by exact (pu_cal c__law_exact tk h0 (pu_cons (by exact (pu_bin op_subX snd_sub (PuE.toB (by exact (pu_cal c__law_draw tk h0 (pu_cons (pu_var (pv 0)) (pu_cons pu_int pu_nil))))) (PuE.toB pu_int))) (pu_cons (by exact (pu_ix (PuE.toB (by exact (PuF.toE (by exact (pu_lstF (pu_cons pu_int (pu_cons pu_int (pu_cons pu_int (pu_cons pu_int pu_nil))))))))) (PuE.toB (by exact (pu_cal c__law_draw tk h0 (pu_cons (pu_var (pv 0)) (pu_cons pu_int pu_nil))))) (fun _ _ => rfl))) pu_nil)))))))⟩
theorem cal__law_number {P : Program} {w : World} {K : PySem.W.Frag} {mg : Str → Option Value} {base : Heap} {k : Nat} {F__law_exact : Fn} {F__law_draw : Fn} (F : FunG K mg "_law_number" s__law_number ["draws"]) (c__law_exact : Cal P w K mg base k "_law_exact" 2 F__law_exact) (c__law_draw : Cal P w K mg base k "_law_draw" 2 F__law_draw) : Cal P w K mg base (k + 1 + 1) "_law_number" 1 (runF 1 (g__law_number F__law_exact F__law_draw)) := cal_of F sc__law_number (der__law_number c__law_exact c__law_draw)

/-! _law_order -/
abbrev s__law_order : Stmt := topS 28
abbrev n__law_order : List Str := ["values", "found", "value", "at", "one"]
theorem sc__law_order : FnScope n__law_order ["values"] (defScope s__law_order) := ⟨rfl, rfl, rfl, by decide +kernel, rfl, by decide +kernel, by decide +kernel⟩
noncomputable def b__law_order_1 (F__law_less : Fn) : Pv.Env → AS → SR := (sSeq (sAsg (gN 3) (eB (one lenOne) (aCons (fLst (eLc [4] (wSeq (eVar 1)) (gN 4) (cNot (tst (eCall 2 F__law_less (aCons (eVar 2) (aCons (eVar 4) aNil))))) (eVar 4))) aNil))) (sAsg (gN 1) (fLst (eBinF catD (fLst (eBinF catD (fLst (eSlF (eVar 1) oNo (oSome (eVar 3)))) (fLst (eLst (aCons (eVar 2) aNil))))) (fLst (eSlF (eVar 1) (oSome (eVar 3)) oNo))))))
noncomputable def g__law_order (F__law_less : Fn) : Pv.Env → AS → SR := (sSeq (sAsg (gN 1) (fLst (eLst aNil))) (sSeq (sFor (wSeq (eVar 0)) (gN 2) (b__law_order_1 F__law_less)) (sRet (eVar 1))))
noncomputable def F__law_order : Fn := runF 5 (g__law_order F__law_less)
set_option maxRecDepth 20000 in
theorem der__law_order {P : Program} {w : World} {K : PySem.W.Frag} {mg : Str → Option Value} {base : Heap} {k : Nat} {F__law_less : Fn} (m_len : mg "len" = none) (c__law_less : Cal P w K mg base k "_law_less" 2 F__law_less) (f : Addr) (cdv : Value) (A : Around) (outer : List PySem.Env) (s : Shared) (H : Hp) (E : XK) (hr : Room (k + 1) (A.deeper (envOfC "_law_order" (defScope s__law_order) s.heap.objs.size f cdv))) : ∃ t, PuSs (cxOf (L2.CX P w) P w K mg base n__law_order "_law_order" (defScope s__law_order) f cdv A outer s H E) (WW.ofE E) (defBody s__law_order) t (g__law_order F__law_less) := by
  have tk : Takes (cxOf (L2.CX P w) P w K mg base n__law_order "_law_order" (defScope s__law_order) f cdv A outer s H E) (WW.ofE E).w := takes_of rfl rfl rfl rfl
  have po : PassesOwn (model P w) (cxOf (L2.CX P w) P w K mg base n__law_order "_law_order" (defScope s__law_order) f cdv A outer s H E).A (cxOf (L2.CX P w) P w K mg base n__law_order "_law_order" (defScope s__law_order) f cdv A outer s H E).env (cxOf (L2.CX P w) P w K mg base n__law_order "_law_order" (defScope s__law_order) f cdv A outer s H E).xe := passes_of rfl
  have h0 : Room k (cxOf (L2.CX P w) P w K mg base n__law_order "_law_order" (defScope s__law_order) f cdv A outer s H E).A := hr.mono (Nat.le_succ k)
  exact ⟨_, (puss_cons (by exact (pus_asg (by exact (PuF.toE (by exact (pu_lstF pu_nil)))) (pug_name (pg_name (i := 1) sc__law_order.nd rfl (by first | exact Or.inl rfl | exact Or.inr rfl))))) (puss_cons (by exact (pus_for po rfl (pui_seq (pu_var (pv 0))) (pug_name (pg_name (i := 2) sc__law_order.nd rfl (by first | exact Or.inl rfl | exact Or.inr rfl))) (puss_cons (by exact (pus_asg (by exact (pu_callB rlen snd_len (by rfl) m_len bt_len (pc_cons (PuE.toB (by exact (PuF.toE (by exact (lcX (hlc := pu_lcX rfl sc__law_order.nd (pui_seq (pu_var (pv 1))) (blkOk_by (own := [("one", 4)]) (by first | (show blkC n__law_order (defScope s__law_order) _ _ = true; decide +kernel) | rfl)) (fun _ => ⟨_, (pug_name (pg_name (i := 4) sc__law_order.nd rfl (by first | exact Or.inl rfl | exact Or.inr rfl)))⟩) (by decide) (fun _ => ⟨_, (puts_one (by exact (ptn_not (by exact (pt_valE (by exact (pu_cal c__law_less takes_none5 h0 (pu_cons (pu_var (pv 2)) (pu_cons (pu_var (pv 4)) pu_nil)))))))))⟩) (fun _ => ⟨_, (pu_var (pv 4))⟩) s)))))) pc_nil))) (pug_name (pg_name (i := 3) sc__law_order.nd rfl (by first | exact Or.inl rfl | exact Or.inr rfl))))) (puss_one (by exact (pus_asg (by exact (PuF.toE (by exact (pu_binF op_addAll snd_cat (PuE.toB (by exact (PuF.toE (by exact (pu_binF op_addAll snd_cat (PuE.toB (by exact (PuF.toE (by exact (pu_sliceF (PuE.toB (pu_var (pv 1))) po_no (po_so (pu_var (pv 3)))))))) (PuE.toB (by exact (PuF.toE (by exact (pu_lstF (pu_cons (pu_var (pv 2)) pu_nil))))))))))) (PuE.toB (by exact (PuF.toE (by exact (pu_sliceF (PuE.toB (pu_var (pv 1))) (po_so (pu_var (pv 3))) po_no))))))))) (pug_name (pg_name (i := 1) sc__law_order.nd rfl (by first | exact Or.inl rfl | exact Or.inr rfl))))))))) (puss_one (by exact (pus_ret (pu_var (pv 1)))))))⟩
theorem cal__law_order {P : Program} {w : World} {K : PySem.W.Frag} {mg : Str → Option Value} {base : Heap} {k : Nat} {F__law_less : Fn} (F : FunG K mg "_law_order" s__law_order ["values"]) (m_len : mg "len" = none) (c__law_less : Cal P w K mg base k "_law_less" 2 F__law_less) : Cal P w K mg base (k + 1 + 1) "_law_order" 1 (runF 5 (g__law_order F__law_less)) := cal_of F sc__law_order (der__law_order m_len c__law_less)

/-! _law_told -/
abbrev s__law_told : Stmt := topS 29
abbrev n__law_told : List Str := ["values", "bounds", "e"]
theorem sc__law_told : FnScope n__law_told ["values", "bounds"] (defScope s__law_told) := ⟨rfl, rfl, rfl, by decide +kernel, rfl, by decide +kernel, by decide +kernel⟩
noncomputable def g__law_told (F_counted : Fn) (cat_Wrong : Cat) : Pv.Env → AS → SR := (sTry cat_Wrong 2 (sRet (eTup (aCons (eC (.str "told")) (aCons (eCall 2 F_counted (aCons (eVar 0) (aCons (eVar 1) aNil))) aNil)))) (sRet (eTup (aCons (eC (.str "wrong")) (aCons (eAt 2) aNil)))))
set_option maxRecDepth 20000 in
theorem der__law_told {P : Program} {w : World} {K : PySem.W.Frag} {mg : Str → Option Value} {base : Heap} {k : Nat} {F_counted : Fn} {cat_Wrong : Cat} (c_counted : Cal P w K mg base k "counted" 2 F_counted) {D_Wrong : Addr} (q_Wrong : Catch K mg cat_Wrong (.ref D_Wrong)) (t_Wrong : mg "Wrong" = some (.ref D_Wrong)) (f : Addr) (cdv : Value) (A : Around) (outer : List PySem.Env) (s : Shared) (H : Hp) (E : XK) (hr : Room (k + 1) (A.deeper (envOfC "_law_told" (defScope s__law_told) s.heap.objs.size f cdv))) : ∃ t, PuSs (cxOf (L2.CX P w) P w K mg base n__law_told "_law_told" (defScope s__law_told) f cdv A outer s H E) (WW.ofE E) (defBody s__law_told) t (g__law_told F_counted cat_Wrong) := by
  have tk : Takes (cxOf (L2.CX P w) P w K mg base n__law_told "_law_told" (defScope s__law_told) f cdv A outer s H E) (WW.ofE E).w := takes_of rfl rfl rfl rfl
  have po : PassesOwn (model P w) (cxOf (L2.CX P w) P w K mg base n__law_told "_law_told" (defScope s__law_told) f cdv A outer s H E).A (cxOf (L2.CX P w) P w K mg base n__law_told "_law_told" (defScope s__law_told) f cdv A outer s H E).env (cxOf (L2.CX P w) P w K mg base n__law_told "_law_told" (defScope s__law_told) f cdv A outer s H E).xe := passes_of rfl
  have h0 : Room k (cxOf (L2.CX P w) P w K mg base n__law_told "_law_told" (defScope s__law_told) f cdv A outer s H E).A := hr.mono (Nat.le_succ k)
  exact ⟨_, (puss_one (by exact (exS (h := pus_try1 q_Wrong rfl rfl sc__law_told.nd (i := 2) rfl rfl ⟨by rfl, by decide, .inl t_Wrong⟩ tk (fun w pn xe tk => ⟨_, (puss_one (by exact (pus_ret (by exact (pu_tup (pu_cons pu_str (pu_cons (by exact (pu_cal c_counted tk h0 (pu_cons (pu_var (pv 0)) (pu_cons (pu_var (pv 1)) pu_nil)))) pu_nil)))))))⟩) (fun a oe C dx pn xT xno xz xf => ⟨_, (puss_one (by exact (pus_ret (by exact (pu_tup (pu_cons pu_str (pu_cons (by exact (pu_xat xT xno xz xf (pv 2))) pu_nil)))))))⟩)))))⟩
theorem cal__law_told {P : Program} {w : World} {K : PySem.W.Frag} {mg : Str → Option Value} {base : Heap} {k : Nat} {F_counted : Fn} {cat_Wrong : Cat} (F : FunG K mg "_law_told" s__law_told ["values", "bounds"]) (c_counted : Cal P w K mg base k "counted" 2 F_counted) {D_Wrong : Addr} (q_Wrong : Catch K mg cat_Wrong (.ref D_Wrong)) (t_Wrong : mg "Wrong" = some (.ref D_Wrong)) : Cal P w K mg base (k + 1 + 1) "_law_told" 2 (runF 3 (g__law_told F_counted cat_Wrong)) := cal_of F sc__law_told (der__law_told c_counted q_Wrong t_Wrong)

/-! law -/
abbrev s_law : Stmt := topS 30
abbrev n_law : List Str := ["script", "draws", "turn", "values", "k", "bounds", "bound", "given", "due", "value", "some", "below", "share", "above", "under", "told", "low", "high", "at", "odd"]
theorem sc_law : FnScope n_law ["script"] (defScope s_law) := ⟨rfl, rfl, rfl, by decide +kernel, rfl, by decide +kernel, by decide +kernel⟩
noncomputable def b_law_2 (F__law_draws : Fn) (F__law_draw : Fn) (F__law_number : Fn) (F__law_order : Fn) (F__law_copy : Fn) (F__law_less : Fn) (F__law_same : Fn) (F__law_told : Fn) (F__law_exact : Fn) (F__law_two : Fn) (F__law_mul : Fn) (F_rank_at : Fn) (F_share_bounds : Fn) : Pv.Env → AS → SR := (sIf (tst (eBin (inD true) (eVar 6) (eBor 5))) (sApp 5 (eVar 6)) sNx)
noncomputable def b_law_3 (F__law_draws : Fn) (F__law_draw : Fn) (F__law_number : Fn) (F__law_order : Fn) (F__law_copy : Fn) (F__law_less : Fn) (F__law_same : Fn) (F__law_told : Fn) (F__law_exact : Fn) (F__law_two : Fn) (F__law_mul : Fn) (F_rank_at : Fn) (F_share_bounds : Fn) : Pv.Env → AS → SR := (sSeq (sAsg (gN 11) (eBin addD (eC (.int 1)) (eCall 2 F__law_draw (aCons (eVar 1) (aCons (eC (.int 9)) aNil))))) (sSeq (sAsg (gN 12) (eCall 2 F__law_exact (aCons (eCall 2 F__law_draw (aCons (eVar 1) (aCons (eBin addD (eVar 11) (eC (.int 1))) aNil))) (aCons (eVar 11) aNil)))) (sSeq (sAsg (gT 2 (gsCons (gN 13) (gsCons (gN 14) gsNil))) (eCall 1 F__law_two (aCons (eCall 2 F__law_mul (aCons (eVar 12) (aCons (eB maxD (aCons (eC (.int 0)) (aCons (eBin subD (eB (one lenOne) (aCons (eVar 3) aNil)) (eC (.int 1))) aNil))) aNil))) aNil))) (sSeq (sIf (cNot (tst (eCall 2 F__law_same (aCons (eCall 2 F_rank_at (aCons (eVar 12) (aCons (eB maxD (aCons (eC (.int 1)) (aCons (eB (one lenOne) (aCons (eVar 3) aNil)) aNil))) aNil))) (aCons (eBin fdivD (eVar 13) (eVar 14)) aNil))))) (sRet (eC (.bl false))) sNx) (sSeq (sAsg (gN 15) (eCall 2 F_share_bounds (aCons (eVar 12) (aCons (eCall 1 F__law_copy (aCons (eVar 8) aNil)) aNil)))) (sSeq (sIf (tst (eBin eqD (eB (one lenOne) (aCons (eVar 3) aNil)) (eC (.int 0)))) (sSeq (sIf (tst (eBin notN (eVar 15) (eC .non))) (sRet (eC (.bl false))) sNx) sCt) sNx) (sSeq (sAsg (gN 9) (eBin ixD (eVar 10) (eBin fdivD (eVar 13) (eVar 14)))) (sSeq (sFrz 5 (sAsg (gN 16) (fLst (eLc [6] (wSeq (eVar 5)) (gN 6) (tst (eCall 2 F__law_less (aCons (eVar 6) (aCons (eVar 9) aNil)))) (eVar 6))))) (sSeq (sFrz 5 (sAsg (gN 17) (fLst (eLc [6] (wSeq (eVar 5)) (gN 6) (cNot (tst (eCall 2 F__law_less (aCons (eVar 6) (aCons (eVar 9) aNil))))) (eVar 6))))) (sIf (cNot (tst (eCall 2 F__law_same (aCons (eVar 15) (aCons (eTup (aCons (eIf (tst (eBin gtD (eB (one lenOne) (aCons (eVar 16) aNil)) (eC (.int 0)))) (eBin ixD (eVar 16) (eUn negD (eC (.int 1)))) (eC .non)) (aCons (eIf (tst (eBin gtD (eB (one lenOne) (aCons (eVar 17) aNil)) (eC (.int 0)))) (eBin ixD (eVar 17) (eC (.int 0))) (eC .non)) aNil))) aNil))))) (sRet (eC (.bl false))) sNx))))))))))
noncomputable def b_law_1 (F__law_draws : Fn) (F__law_draw : Fn) (F__law_number : Fn) (F__law_order : Fn) (F__law_copy : Fn) (F__law_less : Fn) (F__law_same : Fn) (F__law_told : Fn) (F__law_exact : Fn) (F__law_two : Fn) (F__law_mul : Fn) (F_rank_at : Fn) (F_share_bounds : Fn) : Pv.Env → AS → SR := (sSeq (sAsg (gN 3) (fLst (eLc [4] (wRng1 (aCons (eBin ixD (fLst (eLst (aCons (eC (.int 0)) (aCons (eC (.int 1)) (aCons (eC (.int 2)) (aCons (eC (.int 30)) aNil)))))) (eCall 2 F__law_draw (aCons (eVar 1) (aCons (eC (.int 4)) aNil)))) aNil)) (gN 4) cYes (eCall 1 F__law_number (aCons (eVar 1) aNil))))) (sSeq (sOwn 5 (eLst aNil)) (sSeq (sFor (wSeq (eCall 1 F__law_order (aCons (fLst (eLc [4] (wRng1 (aCons (eCall 2 F__law_draw (aCons (eVar 1) (aCons (eC (.int 7)) aNil))) aNil)) (gN 4) cYes (eCall 1 F__law_number (aCons (eVar 1) aNil)))) aNil))) (gN 6) (b_law_2 F__law_draws F__law_draw F__law_number F__law_order F__law_copy F__law_less F__law_same F__law_told F__law_exact F__law_two F__law_mul F_rank_at F_share_bounds)) (sSeq (sFrz 5 (sAsg (gN 7) (eCall 1 F__law_copy (aCons (fLst (eLst (aCons (eVar 3) (aCons (eVar 5) aNil)))) aNil)))) (sSeq (sFrz 5 (sAsg (gN 8) (fLst (eBinF catD (fLst (eLc [6] (wSeq (eVar 5)) (gN 6) cYes (eTup (aCons (eVar 6) (aCons (eB (one lenOne) (aCons (fLst (eLc [9] (wSeq (eVar 3)) (gN 9) (cNot (tst (eCall 2 F__law_less (aCons (eVar 6) (aCons (eVar 9) aNil))))) (eVar 9))) aNil)) aNil))))) (fLst (eLst (aCons (eTup (aCons (eC (.str "all")) (aCons (eB (one lenOne) (aCons (eVar 3) aNil)) aNil))) aNil))))))) (sSeq (sFrz 5 (sIf (cNot (tst (eCall 2 F__law_same (aCons (fLst (eLst (aCons (eCall 2 F__law_told (aCons (eBin ixD (eVar 7) (eC (.int 0))) (aCons (eBin ixD (eVar 7) (eC (.int 1))) aNil))) (aCons (eVar 7) aNil)))) (aCons (fLst (eLst (aCons (eTup (aCons (eC (.str "told")) (aCons (eVar 8) aNil))) (aCons (fLst (eLst (aCons (eVar 3) (aCons (eVar 5) aNil)))) aNil)))) aNil))))) (sRet (eC (.bl false))) sNx)) (sSeq (sAsg (gN 10) (eCall 1 F__law_order (aCons (eVar 3) aNil))) (sSeq (sFor (wRng1 (aCons (eC (.int 4)) aNil)) (gN 4) (b_law_3 F__law_draws F__law_draw F__law_number F__law_order F__law_copy F__law_less F__law_same F__law_told F__law_exact F__law_two F__law_mul F_rank_at F_share_bounds)) (sSeq (sAsg (gN 18) (eCall 2 F__law_draw (aCons (eVar 1) (aCons (eBin addD (eB (one lenOne) (aCons (eBor 5) aNil)) (eC (.int 1))) aNil)))) (sSeq (sAsg (gN 19) (eBin ixD (fLst (eLst (aCons (eC .non) (aCons (eTup (aCons (eC (.int 2)) (aCons (eC (.int 4)) aNil))) (aCons (eC (.str "5")) (aCons (eC (.bl true)) (aCons (eIf (tst (eBin gtD (eVar 18) (eC (.int 0)))) (eBin ixD (eBor 5) (eBin subD (eVar 18) (eC (.int 1)))) (eTup (aCons (eC (.int 1)) (aCons (eC (.int 1)) aNil)))) aNil))))))) (eCall 2 F__law_draw (aCons (eVar 1) (aCons (eC (.int 5)) aNil))))) (sIf (cNot (tst (eCall 2 F__law_same (aCons (eCall 2 F__law_told (aCons (eVar 3) (aCons (fLst (eBinF catD (fLst (eBinF catD (fLst (eSlF (eBor 5) oNo (oSome (eVar 18)))) (fLst (eLst (aCons (eVar 19) aNil))))) (fLst (eSlF (eBor 5) (oSome (eVar 18)) oNo)))) aNil))) (aCons (eTup (aCons (eC (.str "wrong")) (aCons (eVar 18) aNil))) aNil))))) (sRet (eC (.bl false))) sNx)))))))))))
noncomputable def g_law (F__law_draws : Fn) (F__law_draw : Fn) (F__law_number : Fn) (F__law_order : Fn) (F__law_copy : Fn) (F__law_less : Fn) (F__law_same : Fn) (F__law_told : Fn) (F__law_exact : Fn) (F__law_two : Fn) (F__law_mul : Fn) (F_rank_at : Fn) (F_share_bounds : Fn) : Pv.Env → AS → SR := (sSeq (sAsg (gN 1) (eCall 1 F__law_draws (aCons (eVar 0) aNil))) (sSeq (sFor (wRng1 (aCons (eC (.int 5)) aNil)) (gN 2) (b_law_1 F__law_draws F__law_draw F__law_number F__law_order F__law_copy F__law_less F__law_same F__law_told F__law_exact F__law_two F__law_mul F_rank_at F_share_bounds)) (sRet (eC (.bl true)))))
set_option maxRecDepth 20000 in
theorem der_law {P : Program} {w : World} {K : PySem.W.Frag} {mg : Str → Option Value} {base : Heap} {k : Nat} {F__law_draws : Fn} {F__law_draw : Fn} {F__law_number : Fn} {F__law_order : Fn} {F__law_copy : Fn} {F__law_less : Fn} {F__law_same : Fn} {F__law_told : Fn} {F__law_exact : Fn} {F__law_two : Fn} {F__law_mul : Fn} {F_rank_at : Fn} {F_share_bounds : Fn} (m_range : mg "range" = none) (m_len : mg "len" = none) (m_max : mg "max" = none) (c__law_draws : Cal P w K mg base k "_law_draws" 1 F__law_draws) (c__law_draw : Cal P w K mg base k "_law_draw" 2 F__law_draw) (c__law_number : Cal P w K mg base k "_law_number" 1 F__law_number) (c__law_order : Cal P w K mg base k "_law_order" 1 F__law_order) (c__law_copy : Cal P w K mg base k "_law_copy" 1 F__law_copy) (c__law_less : Cal P w K mg base k "_law_less" 2 F__law_less) (c__law_same : Cal P w K mg base k "_law_same" 2 F__law_same) (c__law_told : Cal P w K mg base k "_law_told" 2 F__law_told) (c__law_exact : Cal P w K mg base k "_law_exact" 2 F__law_exact) (c__law_two : Cal P w K mg base k "_law_two" 1 F__law_two) (c__law_mul : Cal P w K mg base k "_law_mul" 2 F__law_mul) (c_rank_at : Cal P w K mg base k "rank_at" 2 F_rank_at) (c_share_bounds : Cal P w K mg base k "share_bounds" 2 F_share_bounds) (f : Addr) (cdv : Value) (A : Around) (outer : List PySem.Env) (s : Shared) (H : Hp) (E : XK) (hr : Room (k + 1) (A.deeper (envOfC "law" (defScope s_law) s.heap.objs.size f cdv))) : ∃ t, PuSs (cxOf (L2.CX P w) P w K mg base n_law "law" (defScope s_law) f cdv A outer s H E) (WW.ofE E) (defBody s_law) t (g_law F__law_draws F__law_draw F__law_number F__law_order F__law_copy F__law_less F__law_same F__law_told F__law_exact F__law_two F__law_mul F_rank_at F_share_bounds) := by
  have tk : Takes (cxOf (L2.CX P w) P w K mg base n_law "law" (defScope s_law) f cdv A outer s H E) (WW.ofE E).w := takes_of rfl rfl rfl rfl
  have po : PassesOwn (model P w) (cxOf (L2.CX P w) P w K mg base n_law "law" (defScope s_law) f cdv A outer s H E).A (cxOf (L2.CX P w) P w K mg base n_law "law" (defScope s_law) f cdv A outer s H E).env (cxOf (L2.CX P w) P w K mg base n_law "law" (defScope s_law) f cdv A outer s H E).xe := passes_of rfl
  have h0 : Room k (cxOf (L2.CX P w) P w K mg base n_law "law" (defScope s_law) f cdv A outer s H E).A := hr.mono (Nat.le_succ k)
  exact ⟨_, (puss_cons (by exact (pus_asg (by exact (pu_cal c__law_draws tk h0 (pu_cons (pu_var (pv 0)) pu_nil))) (pug_name (pg_name (i := 1) sc_law.nd rfl (by first | exact Or.inl rfl | exact Or.inr rfl))))) (puss_cons (by exact (pus_for po rfl (pui_rng1 (by rfl) m_range (pu_cons pu_int pu_nil)) (pug_name (pg_name (i := 2) sc_law.nd rfl (by first | exact Or.inl rfl | exact Or.inr rfl))) (puss_cons (by exact (pus_asg (by exact (PuF.toE (by exact (lcX (hlc := pu_lcX rfl sc_law.nd (pui_rng1 (by rfl) m_range (pu_cons (by exact (pu_ix (PuE.toB (by exact (PuF.toE (by exact (pu_lstF (pu_cons pu_int (pu_cons pu_int (pu_cons pu_int (pu_cons pu_int pu_nil))))))))) (PuE.toB (by exact (pu_cal c__law_draw tk h0 (pu_cons (pu_var (pv 1)) (pu_cons pu_int pu_nil))))) (fun _ _ => rfl))) pu_nil)) (blkOk_by (own := [("k", 4)]) (by first | (show blkC n_law (defScope s_law) _ _ = true; decide +kernel) | rfl)) (fun _ => ⟨_, (pug_name (pg_name (i := 4) sc_law.nd rfl (by first | exact Or.inl rfl | exact Or.inr rfl)))⟩) (by decide) (fun _ => ⟨_, puts_nil⟩) (fun _ => ⟨_, (by exact (pu_cal c__law_number takes_none5 h0 (pu_cons (pu_var (pv 1)) pu_nil)))⟩) s))))) (pug_name (pg_name (i := 3) sc_law.nd rfl (by first | exact Or.inl rfl | exact Or.inr rfl))))) (puss_cons (by exact (pus_ownE (i := 5) sc_law.nd rfl (by first | exact Or.inl rfl | exact Or.inr rfl) (by exact (pu_lstF pu_nil)))) (puss_cons (by exact (pus_for po rfl (pui_seq (by exact (pu_cal c__law_order tk h0 (pu_cons (by exact (PuF.toE (by exact (lcX (hlc := pu_lcX rfl sc_law.nd (pui_rng1 (by rfl) m_range (pu_cons (by exact (pu_cal c__law_draw tk h0 (pu_cons (pu_var (pv 1)) (pu_cons pu_int pu_nil)))) pu_nil)) (blkOk_by (own := [("k", 4)]) (by first | (show blkC n_law (defScope s_law) _ _ = true; decide +kernel) | rfl)) (fun _ => ⟨_, (pug_name (pg_name (i := 4) sc_law.nd rfl (by first | exact Or.inl rfl | exact Or.inr rfl)))⟩) (by decide) (fun _ => ⟨_, puts_nil⟩) (fun _ => ⟨_, (by exact (pu_cal c__law_number takes_none5 h0 (pu_cons (pu_var (pv 1)) pu_nil)))⟩) s))))) pu_nil)))) (pug_name (pg_name (i := 6) sc_law.nd rfl (by first | exact Or.inl rfl | exact Or.inr rfl))) (puss_one (by exact (pus_if (by exact (pt_cmp1 (op_ninAll (hu65 hr)) snd_in (PuE.toB (pu_var (pv 6))) (pu_bor (pv 5)) (by rfl))) (puss_one (by exact (pus_app (pv 5) (pu_var (pv 6))))) puss_nil))))) (puss_cons (PuS.frz 5 (by exact (pus_asg (by exact (pu_cal c__law_copy tk h0 (pu_cons (by exact (PuF.toE (by exact (pu_lstF (pu_cons (pu_var (pv 3)) (pu_cons (pu_var (pv 5)) pu_nil)))))) pu_nil))) (pug_name (pg_name (i := 7) sc_law.nd rfl (by first | exact Or.inl rfl | exact Or.inr rfl)))))) (puss_cons (PuS.frz 5 (by exact (pus_asg (by exact (PuF.toE (by exact (pu_binF op_addAll snd_cat (PuE.toB (by exact (PuF.toE (by exact (lcX (hlc := pu_lcX rfl sc_law.nd (pui_seq (pu_var (pv 5))) (blkOk_by (own := [("bound", 6)]) (by first | (show blkC n_law (defScope s_law) _ _ = true; decide +kernel) | rfl)) (fun _ => ⟨_, (pug_name (pg_name (i := 6) sc_law.nd rfl (by first | exact Or.inl rfl | exact Or.inr rfl)))⟩) (by decide) (fun _ => ⟨_, puts_nil⟩) (fun _ => ⟨_, (by exact (pu_tup (pu_cons (pu_var (pv 6)) (pu_cons (by exact (pu_callB rlen snd_len (by rfl) m_len bt_len (pc_cons (PuE.toB (by exact (PuF.toE (by exact (lcX (hlc := pu_lcX rfl sc_law.nd (pui_seq (pu_var (pv 3))) (blkOk_by (own := [("value", 9)]) (by first | (show blkC n_law (defScope s_law) _ _ = true; decide +kernel) | rfl)) (fun _ => ⟨_, (pug_name (pg_name (i := 9) sc_law.nd rfl (by first | exact Or.inl rfl | exact Or.inr rfl)))⟩) (by decide) (fun _ => ⟨_, (puts_one (by exact (ptn_not (by exact (pt_valE (by exact (pu_cal c__law_less takes_none5 h0 (pu_cons (pu_var (pv 6)) (pu_cons (pu_var (pv 9)) pu_nil)))))))))⟩) (fun _ => ⟨_, (pu_var (pv 9))⟩) s)))))) pc_nil))) pu_nil))))⟩) s)))))) (PuE.toB (by exact (PuF.toE (by exact (pu_lstF (pu_cons (by exact (pu_tup (pu_cons pu_str (pu_cons (by exact (pu_callB rlen snd_len (by rfl) m_len bt_len (pc_cons (PuE.toB (pu_var (pv 3))) pc_nil))) pu_nil)))) pu_nil)))))))))) (pug_name (pg_name (i := 8) sc_law.nd rfl (by first | exact Or.inl rfl | exact Or.inr rfl)))))) (puss_cons (PuS.frz 5 (by exact (pus_if (by exact (ptn_not (by exact (pt_valE (by exact (pu_cal c__law_same tk h0 (pu_cons (by exact (PuF.toE (by exact (pu_lstF (pu_cons (by exact (pu_cal c__law_told tk h0 (pu_cons (by exact (pu_ix (PuE.toB (pu_var (pv 7))) (PuE.toB pu_int) (fun _ _ => rfl))) (pu_cons (by exact (pu_ix (PuE.toB (pu_var (pv 7))) (PuE.toB pu_int) (fun _ _ => rfl))) pu_nil)))) (pu_cons (pu_var (pv 7)) pu_nil)))))) (pu_cons (by exact (PuF.toE (by exact (pu_lstF (pu_cons (by exact (pu_tup (pu_cons pu_str (pu_cons (pu_var (pv 8)) pu_nil)))) (pu_cons (by exact (PuF.toE (by exact (pu_lstF (pu_cons (pu_var (pv 3)) (pu_cons (pu_var (pv 5)) pu_nil)))))) pu_nil)))))) pu_nil)))))))) (puss_one (by exact (pus_ret pu_bl))) puss_nil))) (puss_cons (by exact (pus_asg (by exact (pu_cal c__law_order tk h0 (pu_cons (pu_var (pv 3)) pu_nil))) (pug_name (pg_name (i := 10) sc_law.nd rfl (by first | exact Or.inl rfl | exact Or.inr rfl))))) (puss_cons (by exact (pus_for po rfl (pui_rng1 (by rfl) m_range (pu_cons pu_int pu_nil)) (pug_name (pg_name (i := 4) sc_law.nd rfl (by first | exact Or.inl rfl | exact Or.inr rfl))) (puss_cons (by exact (pus_asg (by exact (pu_bin op_addAll snd_add (PuE.toB pu_int) (PuE.toB (by exact (pu_cal c__law_draw tk h0 (pu_cons (pu_var (pv 1)) (pu_cons pu_int pu_nil))))))) (pug_name (pg_name (i := 11) sc_law.nd rfl (by first | exact Or.inl rfl | exact Or.inr rfl))))) (puss_cons (by exact (pus_asg (by exact (pu_cal c__law_exact tk h0 (pu_cons (by exact (pu_cal c__law_draw tk h0 (pu_cons (pu_var (pv 1)) (pu_cons (by exact (pu_bin op_addAll snd_add (PuE.toB (pu_var (pv 11))) (PuE.toB pu_int))) pu_nil)))) (pu_cons (pu_var (pv 11)) pu_nil)))) (pug_name (pg_name (i := 12) sc_law.nd rfl (by first | exact Or.inl rfl | exact Or.inr rfl))))) (puss_cons (by exact (pus_asg (by exact (pu_cal c__law_two tk h0 (pu_cons (by exact (pu_cal c__law_mul tk h0 (pu_cons (pu_var (pv 12)) (pu_cons (by exact (pu_callB (call_maxX rfl) snd_max (by rfl) m_max bt_max (pc_cons (PuE.toB pu_int) (pc_cons (PuE.toB (by exact (pu_bin op_subX snd_sub (PuE.toB (by exact (pu_callB rlen snd_len (by rfl) m_len bt_len (pc_cons (PuE.toB (pu_var (pv 3))) pc_nil)))) (PuE.toB pu_int)))) pc_nil)))) pu_nil)))) pu_nil))) (pug_tup rfl (pugs_cons (pug_name (pg_name (i := 13) sc_law.nd rfl (by first | exact Or.inl rfl | exact Or.inr rfl))) (pugs_cons (pug_name (pg_name (i := 14) sc_law.nd rfl (by first | exact Or.inl rfl | exact Or.inr rfl))) pugs_nil))))) (puss_cons (by exact (pus_if (by exact (ptn_not (by exact (pt_valE (by exact (pu_cal c__law_same tk h0 (pu_cons (by exact (pu_cal c_rank_at tk h0 (pu_cons (pu_var (pv 12)) (pu_cons (by exact (pu_callB (call_maxX rfl) snd_max (by rfl) m_max bt_max (pc_cons (PuE.toB pu_int) (pc_cons (PuE.toB (by exact (pu_callB rlen snd_len (by rfl) m_len bt_len (pc_cons (PuE.toB (pu_var (pv 3))) pc_nil)))) pc_nil)))) pu_nil)))) (pu_cons (by exact (pu_bin op_fdivW snd_fdiv (PuE.toB (pu_var (pv 13))) (PuE.toB (pu_var (pv 14))))) pu_nil)))))))) (puss_one (by exact (pus_ret pu_bl))) puss_nil)) (puss_cons (by exact (pus_asg (by exact (pu_cal c_share_bounds tk h0 (pu_cons (pu_var (pv 12)) (pu_cons (by exact (pu_cal c__law_copy tk h0 (pu_cons (pu_var (pv 8)) pu_nil))) pu_nil)))) (pug_name (pg_name (i := 15) sc_law.nd rfl (by first | exact Or.inl rfl | exact Or.inr rfl))))) (puss_cons (by exact (pus_if (by exact (pt_cmp1 (op_eqX hr.units) snd_eq (PuE.toB (by exact (pu_callB rlen snd_len (by rfl) m_len bt_len (pc_cons (PuE.toB (pu_var (pv 3))) pc_nil)))) (PuE.toB pu_int) (nomark _))) (puss_cons (by exact (pus_if (by exact (pt_cmp1 op_notN snd_notN (PuE.toB (pu_var (pv 15))) (PuE.toB pu_non) (nomark _))) (puss_one (by exact (pus_ret pu_bl))) puss_nil)) (puss_one pus_cont)) puss_nil)) (puss_cons (by exact (pus_asg (by exact (pu_ix (PuE.toB (pu_var (pv 10))) (PuE.toB (by exact (pu_bin op_fdivW snd_fdiv (PuE.toB (pu_var (pv 13))) (PuE.toB (pu_var (pv 14)))))) (fun _ _ => rfl))) (pug_name (pg_name (i := 9) sc_law.nd rfl (by first | exact Or.inl rfl | exact Or.inr rfl))))) (puss_cons (PuS.frz 5 (by exact (pus_lc (i := 16) (pus_lcX (i := 16) rfl sc_law.nd rfl rfl (by rfl) (pui_seq (pu_var (pv 5))) (blkOk_by (own := [("bound", 6)]) (by first | (show blkC n_law (defScope s_law) _ _ = true; decide +kernel) | rfl)) (fun _ => ⟨_, (pug_name (pg_name (i := 6) sc_law.nd rfl (by first | exact Or.inl rfl | exact Or.inr rfl)))⟩) (by decide) (fun _ => ⟨_, (puts_one (by exact (pt_valE (by exact (pu_cal c__law_less takes_none5 h0 (pu_cons (pu_var (pv 6)) (pu_cons (pu_var (pv 9)) pu_nil)))))))⟩) (fun _ => ⟨_, (pu_var (pv 6))⟩) s)))) (puss_cons (PuS.frz 5 (by exact (pus_lc (i := 17) (pus_lcX (i := 17) rfl sc_law.nd rfl rfl (by rfl) (pui_seq (pu_var (pv 5))) (blkOk_by (own := [("bound", 6)]) (by first | (show blkC n_law (defScope s_law) _ _ = true; decide +kernel) | rfl)) (fun _ => ⟨_, (pug_name (pg_name (i := 6) sc_law.nd rfl (by first | exact Or.inl rfl | exact Or.inr rfl)))⟩) (by decide) (fun _ => ⟨_, (puts_one (by exact (ptn_not (by exact (pt_valE (by exact (pu_cal c__law_less takes_none5 h0 (pu_cons (pu_var (pv 6)) (pu_cons (pu_var (pv 9)) pu_nil)))))))))⟩) (fun _ => ⟨_, (pu_var (pv 6))⟩) s)))) (puss_one (by exact (pus_if (by exact (ptn_not (by exact (pt_valE (by exact (pu_cal c__law_same tk h0 (pu_cons (pu_var (pv 15)) (pu_cons (by exact (pu_tup (pu_cons (by exact (pu_if (by exact (pt_cmp1 op_gtIS snd_gt (PuE.toB (by exact (pu_callB rlen snd_len (by rfl) m_len bt_len (pc_cons (PuE.toB (pu_var (pv 16))) pc_nil)))) (PuE.toB pu_int) (nomark _))) (by exact (pu_ix (PuE.toB (pu_var (pv 16))) (PuE.toB (by exact (pu_un un_neg snd_neg (PuE.toB pu_int)))) (fun _ _ => rfl))) pu_non)) (pu_cons (by exact (pu_if (by exact (pt_cmp1 op_gtIS snd_gt (PuE.toB (by exact (pu_callB rlen snd_len (by rfl) m_len bt_len (pc_cons (PuE.toB (pu_var (pv 17))) pc_nil)))) (PuE.toB pu_int) (nomark _))) (by exact (pu_ix (PuE.toB (pu_var (pv 17))) (PuE.toB pu_int) (fun _ _ => rfl))) pu_non)) pu_nil)))) pu_nil)))))))) (puss_one (by exact (pus_ret pu_bl))) puss_nil)))))))))))))) (puss_cons (by exact (pus_asg (by exact (pu_cal c__law_draw tk h0 (pu_cons (pu_var (pv 1)) (pu_cons (by exact (pu_bin op_addAll snd_add (PuE.toB (by exact (pu_callB rlen snd_len (by rfl) m_len bt_len (pc_cons (pu_bor (pv 5)) pc_nil)))) (PuE.toB pu_int))) pu_nil)))) (pug_name (pg_name (i := 18) sc_law.nd rfl (by first | exact Or.inl rfl | exact Or.inr rfl))))) (puss_cons (by exact (pus_asg (by exact (pu_ix (PuE.toB (by exact (PuF.toE (by exact (pu_lstF (pu_cons pu_non (pu_cons (by exact (pu_tup (pu_cons pu_int (pu_cons pu_int pu_nil)))) (pu_cons pu_str (pu_cons pu_bl (pu_cons (by exact (pu_if (by exact (pt_cmp1 op_gtIS snd_gt (PuE.toB (pu_var (pv 18))) (PuE.toB pu_int) (nomark _))) (by exact (pu_ix (pu_bor (pv 5)) (PuE.toB (by exact (pu_bin op_subX snd_sub (PuE.toB (pu_var (pv 18))) (PuE.toB pu_int)))) (fun _ _ => rfl))) (by exact (pu_tup (pu_cons pu_int (pu_cons pu_int pu_nil)))))) pu_nil)))))))))) (PuE.toB (by exact (pu_cal c__law_draw tk h0 (pu_cons (pu_var (pv 1)) (pu_cons pu_int pu_nil))))) (fun _ _ => rfl))) (pug_name (pg_name (i := 19) sc_law.nd rfl (by first | exact Or.inl rfl | exact Or.inr rfl))))) (puss_one (by exact (pus_if (by exact (ptn_not (by exact (pt_valE (by exact (pu_cal c__law_same tk h0 (pu_cons (by exact (pu_cal c__law_told tk h0 (pu_cons (pu_var (pv 3)) (pu_cons (by exact (PuF.toE (by exact (pu_binF op_addAll snd_cat (PuE.toB (by exact (PuF.toE (by exact (pu_binF op_addAll snd_cat (PuE.toB (by exact (PuF.toE (by exact (pu_sliceF (pu_bor (pv 5)) po_no (po_so (pu_var (pv 18)))))))) (PuE.toB (by exact (PuF.toE (by exact (pu_lstF (pu_cons (pu_var (pv 19)) pu_nil))))))))))) (PuE.toB (by exact (PuF.toE (by exact (pu_sliceF (pu_bor (pv 5)) (po_so (pu_var (pv 18))) po_no))))))))) pu_nil)))) (pu_cons (by exact (pu_tup (pu_cons pu_str (pu_cons (pu_var (pv 18)) pu_nil)))) pu_nil)))))))) (puss_one (by exact (pus_ret pu_bl))) puss_nil))))))))))))))) (puss_one (by exact (pus_ret pu_bl)))))⟩
theorem cal_law {P : Program} {w : World} {K : PySem.W.Frag} {mg : Str → Option Value} {base : Heap} {k : Nat} {F__law_draws : Fn} {F__law_draw : Fn} {F__law_number : Fn} {F__law_order : Fn} {F__law_copy : Fn} {F__law_less : Fn} {F__law_same : Fn} {F__law_told : Fn} {F__law_exact : Fn} {F__law_two : Fn} {F__law_mul : Fn} {F_rank_at : Fn} {F_share_bounds : Fn} (F : FunG K mg "law" s_law ["script"]) (m_range : mg "range" = none) (m_len : mg "len" = none) (m_max : mg "max" = none) (c__law_draws : Cal P w K mg base k "_law_draws" 1 F__law_draws) (c__law_draw : Cal P w K mg base k "_law_draw" 2 F__law_draw) (c__law_number : Cal P w K mg base k "_law_number" 1 F__law_number) (c__law_order : Cal P w K mg base k "_law_order" 1 F__law_order) (c__law_copy : Cal P w K mg base k "_law_copy" 1 F__law_copy) (c__law_less : Cal P w K mg base k "_law_less" 2 F__law_less) (c__law_same : Cal P w K mg base k "_law_same" 2 F__law_same) (c__law_told : Cal P w K mg base k "_law_told" 2 F__law_told) (c__law_exact : Cal P w K mg base k "_law_exact" 2 F__law_exact) (c__law_two : Cal P w K mg base k "_law_two" 1 F__law_two) (c__law_mul : Cal P w K mg base k "_law_mul" 2 F__law_mul) (c_rank_at : Cal P w K mg base k "rank_at" 2 F_rank_at) (c_share_bounds : Cal P w K mg base k "share_bounds" 2 F_share_bounds) : Cal P w K mg base (k + 1 + 1) "law" 1 (runF 20 (g_law F__law_draws F__law_draw F__law_number F__law_order F__law_copy F__law_less F__law_same F__law_told F__law_exact F__law_two F__law_mul F_rank_at F_share_bounds)) := cal_of F sc_law (der_law m_range m_len m_max c__law_draws c__law_draw c__law_number c__law_order c__law_copy c__law_less c__law_same c__law_told c__law_exact c__law_two c__law_mul c_rank_at c_share_bounds)


end K61

namespace K61
open PySem PySem.Spec Pv
/-! ### numbers -/
/-- how an exact number stands -/
def numD (q : Rat) : D := if q.den = 1 then .int q.num else .tup [.int q.num, .int q.den]
def tupQ (q : Rat) : D := .tup [.int q.num, .int q.den]
theorem log_lt {n k : Nat} (h : n < 2 ^ k) (hk : 0 < k) : n.log2 < k := by
  by_cases h0 : n = 0
  · subst h0; simpa using hk
  · exact (Nat.log2_lt h0).mpr h
theorem divOk_of {g : Nat} (h0 : 0 < g) (h : g < 2 ^ 8000) : divOk (g : Int) = true := @decide_eq_true _ (Classical.propDecidable _) ⟨by omega, by
  rw [Int.natAbs_natCast]
  exact Nat.lt_trans (log_lt h (by decide)) (by decide)⟩
theorem mulOk_of {a b : Int} (h1 : a.natAbs < 2 ^ 4000) (h2 : b.natAbs < 2 ^ 4000) : mulOk a b = true := @decide_eq_true _ (Classical.propDecidable _) (by
  have := log_lt h1 (by decide)
  have := log_lt h2 (by decide)
  omega)
@[simp] theorem dsimp_b {a b : Int} {A : AS} : b_divisor_1 [.sh (.int a), .sh (.int b)] A = if 0 < b then .nx [.sh (.int b), .sh (.int (a % b))] A else .un := by
  by_cases h : 0 < b <;> simp [b_divisor_1, h]
theorem divisor_ok (a b : Nat) (A : AS) : F_divisor [.int a, .int b] A = .ok (.int (Nat.gcd a b)) A := by
  have key : ∀ (n : Nat) (a b : Nat), b ≤ n → sWhile (tst (eBin gtD (eVar 1) (eC (.int 0)))) b_divisor_1 [.sh (.int a), .sh (.int b)] A = .nx [.sh (.int (Nat.gcd a b)), .sh (.int 0)] A := by
    intro n
    induction n with
    | zero =>
      intro a b h
      have e : b = 0 := by omega
      subst e
      rw [sWhile_eq]
      simp
    | succ n ih =>
      intro a b h
      rw [sWhile_eq]
      by_cases hb : b = 0
      · subst hb; simp
      · have h1 : 0 < b := Nat.pos_of_ne_zero hb
        simp [h1]
        rw [← Int.natCast_emod, ih b (a % b) (by have := Nat.mod_lt a h1; omega), Nat.gcd_comm b, ← Nat.gcd_rec, Nat.gcd_comm]
  rw [F_divisor, runF_d]
  simp [g_divisor]
  rw [key b a b (Nat.le_refl _)]
  simp
theorem abs_nat (a : Int) : (if a < 0 then -a else a) = (a.natAbs : Int) := by omega
theorem numD_mk {a : Int} {d : Nat} (h : d ≠ 0) : numD (mkRat a d) = if (d : Int) / (Nat.gcd a.natAbs d : Nat) = 1 then .int (a / (Nat.gcd a.natAbs d : Nat)) else .tup [.int (a / (Nat.gcd a.natAbs d : Nat)), .int ((d : Int) / (Nat.gcd a.natAbs d : Nat))] := by
  unfold numD
  rw [Rat.num_mkRat, Rat.den_mkRat, if_neg h, if_neg h, Nat.gcd_comm]
  by_cases e : d / Nat.gcd a.natAbs d = 1
  · rw [if_pos e, if_pos (by rw [← Int.natCast_ediv, e]; rfl)]
  · rw [if_neg e, if_neg (by rw [← Int.natCast_ediv]; omega), Int.natCast_ediv]
theorem ratio_nat (a : Int) (d : Nat) (A : AS) (h : d ≠ 0) (hd : d < 2 ^ 8000) : F_ratio [.int a, .int d] A = .ok (numD (mkRat a d)) A := by
  have g0 : 0 < Nat.gcd a.natAbs d := Nat.gcd_pos_of_pos_right _ (Nat.pos_of_ne_zero h)
  have gl : Nat.gcd a.natAbs d < 2 ^ 8000 := Nat.lt_of_le_of_lt (Nat.gcd_le_right _ (Nat.pos_of_ne_zero h)) hd
  rw [F_ratio, runF_d]
  simp only [g_ratio, List.map_cons, List.map_nil, List.length_cons, List.length_nil]
  have e0 : ¬ ((d : Int) < 0) := by omega
  simp [e0, abs_nat, divisor_ok, divOk_of g0 gl, numD_mk h]
  by_cases e : (d : Int) / (Nat.gcd a.natAbs d : Nat) = 1 <;> simp [e]
theorem ratio_ok (a b : Int) (A : AS) (h : b ≠ 0) (hb : b.natAbs < 2 ^ 8000) : F_ratio [.int a, .int b] A = .ok (numD (Rat.divInt a b)) A := by
  rcases Int.le_total 0 b with hp | hn
  · obtain ⟨d, rfl⟩ := Int.eq_ofNat_of_zero_le hp
    rw [ratio_nat a d A (by omega) (by simpa using hb), Rat.divInt_ofNat]
  · obtain ⟨d, e⟩ := Int.eq_ofNat_of_zero_le (show 0 ≤ -b by omega)
    have e0 : b < 0 := by omega
    have key : F_ratio [.int a, .int b] A = F_ratio [.int (-a), .int d] A := by
      rw [F_ratio, runF_d, runF_d]
      simp only [g_ratio, List.map_cons, List.map_nil, List.length_cons, List.length_nil]
      have e1 : ¬ ((d : Int) < 0) := by omega
      have e2 : 0 - b = (d : Int) := by omega
      have e3 : 0 - a = -a := by omega
      simp [e0, e1]
      rw [e]
    rw [key, ratio_nat (-a) d A (by omega) (by omega)]
    have e2 : b = -(d : Int) := by omega
    rw [e2, Rat.divInt_neg', Rat.divInt_ofNat]
theorem parts_ok (q : Rat) (A : AS) : F_parts [numD q] A = .ok (tupQ q) A := by
  rw [F_parts, runF_d]
  unfold numD tupQ
  by_cases h : q.den = 1 <;> simp [g_parts, h, isiB, szOk]
/-- numbers that are not too great -/
def Bnd (q : Rat) : Prop := q.num.natAbs < 2 ^ 2000 ∧ q.den < 2 ^ 2000
theorem mul_lt' {a b : Nat} (h1 : a < 2 ^ 2000) (h2 : b < 2 ^ 2000) : a * b < 2 ^ 4000 := by
  have := Nat.mul_lt_mul'' h1 h2
  rwa [← Nat.pow_add] at this
theorem Bnd.n4 {q : Rat} (h : Bnd q) : q.num.natAbs < 2 ^ 4000 := Nat.lt_trans h.1 (Nat.pow_lt_pow_right (by decide) (by decide))
theorem Bnd.d4 {q : Rat} (h : Bnd q) : (q.den : Int).natAbs < 2 ^ 4000 := by rw [Int.natAbs_natCast]; exact Nat.lt_trans h.2 (Nat.pow_lt_pow_right (by decide) (by decide))
theorem den_mul {p q : Rat} (h1 : Bnd p) (h2 : Bnd q) : ((p.den : Int) * (q.den : Int)).natAbs < 2 ^ 8000 := by
  rw [Int.natAbs_mul, Int.natAbs_natCast, Int.natAbs_natCast]
  exact Nat.lt_trans (mul_lt' h1.2 h2.2) (Nat.pow_lt_pow_right (by decide) (by decide))
theorem den_ne (p q : Rat) : (p.den : Int) * (q.den : Int) ≠ 0 := by
  have := p.den_nz
  have := q.den_nz
  exact Int.mul_ne_zero (by omega) (by omega)
theorem add_q (p q : Rat) : Rat.divInt (p.num * q.den + q.num * p.den) ((p.den : Int) * q.den) = p + q := by
  rw [← Rat.divInt_add_divInt _ _ (by have := p.den_nz; omega) (by have := q.den_nz; omega), Rat.num_divInt_den, Rat.num_divInt_den]
theorem mul_q (p q : Rat) : Rat.divInt (p.num * q.num) ((p.den : Int) * q.den) = p * q := by
  rw [← Rat.divInt_mul_divInt, Rat.num_divInt_den, Rat.num_divInt_den]
theorem neg_q (p : Rat) : Rat.divInt (0 - p.num) (p.den : Int) = -p := by
  rw [Int.zero_sub, ← Rat.neg_divInt, Rat.num_divInt_den]
theorem add_ok (p q : Rat) (A : AS) (h1 : Bnd p) (h2 : Bnd q) : F_add [numD p, numD q] A = .ok (numD (p + q)) A := by
  rw [F_add, runF_d]
  simp [g_add, parts_ok, tupQ, mulOk_of h1.n4 h2.d4, mulOk_of h2.n4 h1.d4, mulOk_of h1.d4 h2.d4, ratio_ok _ _ _ (den_ne p q) (den_mul h1 h2), add_q]
theorem minus_ok (p : Rat) (A : AS) (h : Bnd p) : F_minus [numD p] A = .ok (numD (-p)) A := by
  rw [F_minus, runF_d]
  have h1 : (p.den : Int).natAbs < 2 ^ 8000 := Nat.lt_trans h.d4 (Nat.pow_lt_pow_right (by decide) (by decide))
  have e : mkRat (-p.num) p.den = -p := by rw [← Rat.neg_mkRat, Rat.mkRat_self]
  simp [g_minus, parts_ok, tupQ, ratio_ok _ _ _ (show (p.den : Int) ≠ 0 by have := p.den_nz; omega) h1]
  rw [e]
theorem Bnd.neg {p : Rat} (h : Bnd p) : Bnd (-p) := ⟨by rw [Rat.neg_num, Int.natAbs_neg]; exact h.1, by rw [Rat.neg_den]; exact h.2⟩
theorem sub_ok (p q : Rat) (A : AS) (h1 : Bnd p) (h2 : Bnd q) : F_sub [numD p, numD q] A = .ok (numD (p - q)) A := by
  rw [F_sub, runF_d]
  simp [g_sub, minus_ok q A h2, add_ok p (-q) A h1 h2.neg, Rat.sub_eq_add_neg]
theorem mul_ok (p q : Rat) (A : AS) (h1 : Bnd p) (h2 : Bnd q) : F_mul [numD p, numD q] A = .ok (numD (p * q)) A := by
  rw [F_mul, runF_d]
  simp [g_mul, parts_ok, tupQ, mulOk_of h1.n4 h2.n4, mulOk_of h1.d4 h2.d4, ratio_ok _ _ _ (den_ne p q) (den_mul h1 h2), mul_q]
theorem sign_ok (p : Rat) (A : AS) : F_sign [numD p] A = .ok (.int p.num.sign) A := by
  rw [F_sign, runF_d]
  simp [g_sign, parts_ok, tupQ, PyProof.Rows.b2i]
  rcases Int.lt_trichotomy p.num 0 with h | h | h
  · rw [if_neg (by omega), if_pos h, Int.sign_eq_neg_one_of_neg h]; rfl
  · rw [h]; rfl
  · rw [if_pos h, if_neg (by omega), Int.sign_eq_one_of_pos h]; rfl
theorem less_ok (p q : Rat) (A : AS) (h1 : Bnd p) (h2 : Bnd q) : F_less [numD p, numD q] A = .ok (.bl (decide (p < q))) A := by
  rw [F_less, runF_d]
  simp [g_less, sub_ok p q A h1 h2, sign_ok]
  have e1 : 0 ≤ (p - q).num ↔ 0 ≤ p - q := Rat.num_nonneg
  have e2 : p < q ↔ ¬ 0 ≤ p - q := by grind
  rw [e2, ← e1]
  omega
theorem divisor_i {a b : Int} {A : AS} (h1 : 0 ≤ a) (h2 : 0 ≤ b) : F_divisor [.int a, .int b] A = .ok (.int (Int.gcd a b)) A := by
  obtain ⟨m, rfl⟩ := Int.eq_ofNat_of_zero_le h1
  obtain ⟨n, rfl⟩ := Int.eq_ofNat_of_zero_le h2
  exact divisor_ok m n A
/-- what is a number -/
def isNum : D → Bool
  | .int _ => true
  | .tup [.int a, .int b] => decide (1 < b) && decide (Int.gcd a b = 1)
  | _ => false
theorem is_number_q (q : Rat) (A : AS) : F_is_number [numD q] A = .ok (.bl true) A := by
  rw [F_is_number, runF_d]
  unfold numD
  by_cases h : q.den = 1
  · simp [g_is_number, h, isiB]
  · have h1 : 1 < q.den := by have := q.den_pos; omega
    have e : eLc [1] (wSeq (eVar 0)) (gN 1) cYes (eAnd (eUn (isiD "int") (eVar 1)) (eNot (eUn (isiD "bool") (eVar 1)))) [.sh (.tup [.int q.num, .int q.den]), .un] A = .ok ([D.int q.num, .int q.den].map fun _ => .bl true) A := by
      refine eLc_map (ds := [.int q.num, .int q.den]) (A' := A) (wSeq_tup (by simp)) (by simp) fun d hd => ?_
      simp at hd
      rcases hd with rfl | rfl <;> exact ⟨_, rfl, by simp [wipeE, isiB]⟩
    have hg : Int.gcd (q.num.natAbs : Int) q.den = 1 := by
      rw [Int.gcd_natCast_natCast]
      exact q.reduced
    have h2 : (1 : Int) < q.den := by omega
    have hg2 : Nat.gcd q.num.natAbs q.den = 1 := q.reduced
    simp [g_is_number, h, isiB, e, allOne, asR, asL, blsOf, h2, abs_nat, divisor_ok, hg2]
theorem is_number_bad {d : D} (A : AS) (h : d = .non ∨ d = .tup [.int 2, .int 4] ∨ (∃ s, d = .str s) ∨ (∃ b, d = .bl b) ∨ d = .tup [.int 1, .int 1]) : F_is_number [d] A = .ok (.bl false) A := by
  have e : ∀ a b : Int, eLc [1] (wSeq (eVar 0)) (gN 1) cYes (eAnd (eUn (isiD "int") (eVar 1)) (eNot (eUn (isiD "bool") (eVar 1)))) [.sh (.tup [.int a, .int b]), .un] A = .ok ([D.int a, .int b].map fun _ => .bl true) A := by
    intro a b
    refine eLc_map (ds := [.int a, .int b]) (A' := A) (wSeq_tup (by simp)) (by simp) fun d hd => ?_
    simp at hd
    rcases hd with rfl | rfl <;> exact ⟨_, rfl, by simp [wipeE, isiB]⟩
  rw [F_is_number, runF_d]
  rcases h with rfl | rfl | ⟨s, rfl⟩ | ⟨b, rfl⟩ | rfl
  · simp [g_is_number, isiB]
  · have := divisor_i (a := 2) (b := 4) (A := A) (by decide) (by decide)
    simp [g_is_number, isiB, e, allOne, asR, asL, blsOf, this]
    decide
  · simp [g_is_number, isiB]
  · simp [g_is_number, isiB]
  · simp [g_is_number, isiB, e, allOne, asR, asL, blsOf]
end K61

namespace K61
open PySem PySem.Spec Pv
/-! ### draws -/
def DrC (c : Cell) : Prop := ∃ (ns : List Int) (p r m : Int), c = .lst [.lst (ns.map D.int), .int p, .int r, .int m] ∧ 0 ≤ p ∧ 0 ≤ r ∧ 0 ≤ m ∧ m < 2147483648
theorem pow18 (A : AS) : powD (.int 10) (.int 18) A = .ok (.int 1000000000000000000) A := rfl
theorem divOk_lim {L : Int} (h0 : 0 < L) (h : L < 2 ^ 200) : divOk L = true := by
  obtain ⟨g, rfl⟩ := Int.eq_ofNat_of_zero_le (Int.le_of_lt h0)
  refine divOk_of (by omega) (Nat.lt_trans (m := 2 ^ 200) (by exact_mod_cast h) (Nat.pow_lt_pow_right (by decide) (by decide)))
theorem log_31 {m : Int} (h0 : 0 ≤ m) (h : m < 2147483648) : m.natAbs.log2 < 32 := log_lt (show m.natAbs < 2 ^ 32 by omega) (by decide)
theorem mulOk_m {m k : Int} (h0 : 0 ≤ m) (h : m < 2147483648) (h1 : 0 ≤ k) (h2 : k < 2147483648) : mulOk m k = true := @decide_eq_true _ (Classical.propDecidable _) (by
  have := log_31 h0 h
  have := log_31 h1 h2
  omega)
theorem divOk_11 : divOk 11 = true := divOk_lim (by decide) (by decide)
theorem draw_ok {c : Cell} {B : AS} {L : Int} (h : DrC c) (h0 : 0 < L) (hL : L < 2 ^ 200) : ∃ (v : Int) (c' : Cell), F__law_draw [.ref 0, .int L] (c :: B) = .ok (.int v) (c' :: B) ∧ 0 ≤ v ∧ v < L ∧ DrC c' := by
  obtain ⟨ns, p, r, m, rfl, hp, hr, hm, hm2⟩ := h
  have hd := divOk_lim h0 hL
  have e1 := mulOk_m hm hm2 (k := 48271) (by decide) (by decide)
  have e2 : ∀ m' : Int, mulOk (m' % 2147483647) 69621 = true := fun m' => mulOk_m (Int.emod_nonneg _ (by decide)) (by have := Int.emod_lt_of_pos m' (show (0 : Int) < 2147483647 by decide); omega) (by decide) (by decide)
  have e3 := mulOk_m hm hm2 (k := 69621) (by decide) (by decide)
  have vb : ∀ x : Int, 0 ≤ x % L ∧ x % L < L := fun x => ⟨Int.emod_nonneg _ (by omega), Int.emod_lt_of_pos _ h0⟩
  have mb : ∀ x : Int, 0 ≤ x % 2147483647 ∧ x % 2147483647 < 2147483648 := fun x => ⟨Int.emod_nonneg _ (by decide), by have := Int.emod_lt_of_pos x (show (0 : Int) < 2147483647 by decide); omega⟩
  have mb2 : ∀ x : Int, 0 ≤ x % 2147483629 ∧ x % 2147483629 < 2147483648 := fun x => ⟨Int.emod_nonneg _ (by decide), by have := Int.emod_lt_of_pos x (show (0 : Int) < 2147483629 by decide); omega⟩
  rw [F__law_draw, runF_d]
  by_cases hr0 : r = 0
  · subst hr0
    by_cases hpl : p < ns.length
    · obtain ⟨k, rfl⟩ := Int.eq_ofNat_of_zero_le hp
      have hk : k < ns.length := by omega
      have ea : L2.atI (ns.map D.int) (k : Int) = some (.int ns[k]) := L2.atI_nat (by rw [List.getElem?_map, List.getElem?_eq_getElem hk]; rfl)
      by_cases hc : (1000000000000000000 : Int) ≤ ns[k]
      · have hc0 : 0 < ns[k] := by omega
        refine ⟨ns[k] % L, .lst [.lst (ns.map D.int), .int (k + 1), .int (ns[k] / L), .int ((m * 48271 + ns[k] + 13) % 2147483647)], ?_, (vb _).1, (vb _).2, ns, _, _, _, rfl, by omega, Int.ediv_nonneg (by omega) (by omega), (mb _).1, (mb _).2⟩
        simp [g__law_draw, hk, ea, hc, e1, pow18, hc0, hd, h0]
      · refine ⟨((((m * 48271 + ns[k] + 13) % 2147483647) * 69621 + 7) % 2147483629 / 11) % L, .lst [.lst (ns.map D.int), .int (k + 1), .int 0, .int ((((m * 48271 + ns[k] + 13) % 2147483647) * 69621 + 7) % 2147483629)], ?_, (vb _).1, (vb _).2, ns, _, _, _, rfl, by omega, by omega, (mb2 _).1, (mb2 _).2⟩
        simp [g__law_draw, hk, ea, hc, e1, pow18, hd, h0, e2, divOk_11]
    · refine ⟨((m * 69621 + 7) % 2147483629 / 11) % L, .lst [.lst (ns.map D.int), .int p, .int 0, .int ((m * 69621 + 7) % 2147483629)], ?_, (vb _).1, (vb _).2, ns, _, _, _, rfl, by omega, by omega, (mb2 _).1, (mb2 _).2⟩
      simp [g__law_draw, hpl, e3, divOk_11, h0]
  · have hr1 : 0 < r := by omega
    refine ⟨r % L, .lst [.lst (ns.map D.int), .int p, .int (r / L), .int m], ?_, (vb _).1, (vb _).2, ns, _, _, _, rfl, by omega, Int.ediv_nonneg (by omega) (by omega), hm, hm2⟩
    simp [g__law_draw, hr0, hr1, hd, h0]
theorem draws_ok (ns : List Int) : F__law_draws [.scr (ns.map D.int)] [] = .ok (.ref 0) [.lst [.lst (ns.map D.int), .int 0, .int 0, .int 1]] := by
  rw [F__law_draws, runF_d]
  simp [g__law_draws, listOne, asR]
end K61

namespace K61
open PySem PySem.Spec Pv
/-! ### the same, a copy -/
noncomputable def F__law_same : Nat → Fn
  | 0 => fun _ _ => .un
  | n + 1 => runF 5 (g__law_same (F__law_same n))
noncomputable def F__law_copy : Nat → Fn
  | 0 => fun _ _ => .un
  | n + 1 => runF 4 (g__law_copy (F__law_copy n))
/-- values of lists and tuples, nested at most so deep -/
def okD : Nat → D → Bool
  | 0, _ => false
  | _ + 1, .non => true
  | _ + 1, .bl _ => true
  | _ + 1, .int _ => true
  | _ + 1, .str _ => true
  | n + 1, .tup xs => decide (xs.length ≤ 1000000) && xs.all (okD n)
  | n + 1, .lst xs => decide (xs.length ≤ 1000000) && xs.all (okD n)
  | _ + 1, _ => false
theorem eqv_int (i : Int) : PyData.eqv (D.py (.int i)) (D.py (.int i)) = true := by simp [D.py, PyData.eqv]
theorem eqv_bl (i : Bool) : PyData.eqv (D.py (.bl i)) (D.py (.bl i)) = true := by cases i <;> rfl
theorem eqv_str (i : Str) : PyData.eqv (D.py (.str i)) (D.py (.str i)) = true := by simp [D.py, PyData.eqv]
theorem bls_rep (n : Nat) : blsOf (List.replicate n (.bl true)) = some (List.replicate n true) := by
  induction n with
  | zero => rfl
  | succ n ih => simp [List.replicate_succ, blsOf, ih]
theorem all_rep (n : Nat) (A : AS) : allOne (.lst (List.replicate n (.bl true))) A = .ok (.bl true) A := by
  unfold allOne
  simp [asR, asL, bls_rep]
theorem same_seq {F : Fn} {xs : List D} {A : AS} (hl : xs.length ≤ 1000000) (h : ∀ d ∈ xs, F [d, d] A = .ok (.bl true) A) (mk : List D → D) (hm : mk = D.tup ∨ mk = D.lst) (y : Sl) (z : Sl) (u : Sl) :
    eLc [4] (wRng1 (aCons (eB (one lenOne) (aCons (eVar 1) aNil)) aNil)) (gN 4) cYes (eCall 2 F (aCons (eBin ixD (eVar 0) (eVar 4)) (aCons (eBin ixD (eVar 1) (eVar 4)) aNil))) [.sh (mk xs), .sh (mk xs), y, z, u] A = .ok (List.replicate xs.length (.bl true)) A := by
  have hln : lenOne (mk xs) A = .ok (.int xs.length) A := by rcases hm with rfl | rfl <;> simp
  have e1 : (aCons (eB (one lenOne) (aCons (eVar 1) aNil)) aNil) [.sh (mk xs), .sh (mk xs), y, z, u] A = .ok [.int xs.length] A := by simp [hln]
  rw [eLc_map (ds := rngL 0 (xs.length : Int).toNat) (F := fun _ => .bl true) (A' := A) (wRng1_ok e1 (by constructor <;> omega)) (by rw [rngL_length]; omega) fun d hd => ?_]
  · congr 1
    rw [List.map_const', rngL_length]
    simp
  · obtain ⟨k, hk⟩ := List.mem_iff_getElem?.mp hd
    obtain ⟨h1, rfl⟩ := rngL_get hk
    have h2 : k < xs.length := by omega
    have ea : L2.atI xs ((0 : Int) + (k : Int)) = some xs[k] := by rw [Int.zero_add]; exact L2.atI_nat (List.getElem?_eq_getElem h2)
    refine ⟨_, rfl, ?_⟩
    rcases hm with rfl | rfl <;> simp [wipeE] <;> (rw [Int.zero_add] at ea; simp [ea, h _ (List.getElem_mem h2)])
section
variable (F : Fn) (A : AS)
theorem same_bl (b : Bool) : runF 5 (g__law_same F) [.bl b, .bl b] A = .ok (.bl true) A := by
  rw [runF_d]
  simp [g__law_same, isNonD, isiB, eqD_flat (x := .bl b) (y := .bl b) rfl, eqv_bl]
theorem same_int (b : Int) : runF 5 (g__law_same F) [.int b, .int b] A = .ok (.bl true) A := by
  rw [runF_d]
  simp [g__law_same, isNonD, isiB]
theorem same_str (b : Str) : runF 5 (g__law_same F) [.str b, .str b] A = .ok (.bl true) A := by
  rw [runF_d]
  simp [g__law_same, isNonD, isiB, eqD_flat (x := .str b) (y := .str b) rfl, eqv_str]
theorem same_non : runF 5 (g__law_same F) [.non, .non] A = .ok (.bl true) A := by
  rw [runF_d]
  simp [g__law_same]
theorem same_tup (xs : List D) (h1 : xs.length ≤ 1000000) (h2 : ∀ d ∈ xs, F [d, d] A = .ok (.bl true) A) : runF 5 (g__law_same F) [.tup xs, .tup xs] A = .ok (.bl true) A := by
  rw [runF_d]
  have e := same_seq (F := F) (A := A) h1 h2 D.tup (.inl rfl) .un (.sh (.bl true)) .un
  have e2 := all_rep xs.length A
  simp [g__law_same, isNonD, isiB, e, e2]
theorem same_lst (xs : List D) (h1 : xs.length ≤ 1000000) (h2 : ∀ d ∈ xs, F [d, d] A = .ok (.bl true) A) : runF 5 (g__law_same F) [.lst xs, .lst xs] A = .ok (.bl true) A := by
  rw [runF_d]
  have e := same_seq (F := F) (A := A) h1 h2 D.lst (.inr rfl) .un (.sh (.bl true)) .un
  have e2 := all_rep xs.length A
  simp [g__law_same, isNonD, isiB, e, e2]
end
theorem okD_tup {n : Nat} {xs : List D} (h : okD (n + 1) (.tup xs) = true) : xs.length ≤ 1000000 ∧ ∀ d ∈ xs, okD n d = true := by
  simpa only [okD, Bool.and_eq_true, decide_eq_true_eq, List.all_eq_true] using h
theorem okD_lst {n : Nat} {xs : List D} (h : okD (n + 1) (.lst xs) = true) : xs.length ≤ 1000000 ∧ ∀ d ∈ xs, okD n d = true := by
  simpa only [okD, Bool.and_eq_true, decide_eq_true_eq, List.all_eq_true] using h
theorem same_ok (n : Nat) : ∀ (d : D) (A : AS), okD n d = true → F__law_same n [d, d] A = .ok (.bl true) A := by
  induction n with
  | zero => intro d A h; simp [okD] at h
  | succ n ih =>
    intro d A h
    show runF 5 (g__law_same (F__law_same n)) [d, d] A = _
    cases d with
    | non => exact same_non _ A
    | bl b => exact same_bl _ A b
    | int i => exact same_int _ A i
    | str s => exact same_str _ A s
    | tup xs => exact same_tup _ A xs (okD_tup h).1 fun d hd => ih d A ((okD_tup h).2 d hd)
    | lst xs => exact same_lst _ A xs (okD_lst h).1 fun d hd => ih d A ((okD_lst h).2 d hd)
    | scr xs => simp [okD] at h
    | dic xs => simp [okD] at h
    | ref k => simp [okD] at h
theorem copy_ok (n : Nat) : ∀ (d : D) (A : AS), okD n d = true → F__law_copy n [d] A = .ok d A := by
  induction n with
  | zero => intro d A h; simp [okD] at h
  | succ n ih =>
    intro d A h
    rw [F__law_copy, runF_d]
    have seq : ∀ (mk : List D → D) (xs : List D) (y z u : Sl), (mk = D.tup ∨ mk = D.lst) → xs.length ≤ 1000000 → (∀ d ∈ xs, F__law_copy n [d] A = .ok d A) →
        eLc [1] (wSeq (eVar 0)) (gN 1) cYes (eCall 1 (F__law_copy n) (aCons (eVar 1) aNil)) [.sh (mk xs), y, z, u] A = .ok xs A := by
      intro mk xs y z u hm hl hx
      have hw : wSeq (eVar 0) [.sh (mk xs), y, z, u] A = .ok xs A := by rcases hm with rfl | rfl <;> simp [wSeq]
      rw [eLc_map (F := fun d => d) (tgt := gN 1) (vs := [1]) hw (by omega) fun d hd => ⟨_, gN_d, by simp [wipeE, hx d hd]⟩]
      simp
    cases d with
    | non => simp [g__law_copy, isiB]
    | bl b => simp [g__law_copy, isiB]
    | int i => simp [g__law_copy, isiB]
    | str s => simp [g__law_copy, isiB]
    | tup xs =>
      simp only [okD, Bool.and_eq_true, decide_eq_true_eq, List.all_eq_true] at h
      have e := fun y z u => seq D.tup xs y z u (.inl rfl) h.1 (fun d hd => ih d A (h.2 d hd))
      simp [g__law_copy, isiB, e, tupOne, asR, asL]
    | lst xs =>
      simp only [okD, Bool.and_eq_true, decide_eq_true_eq, List.all_eq_true] at h
      have e := fun y z u => seq D.lst xs y z u (.inr rfl) h.1 (fun d hd => ih d A (h.2 d hd))
      simp [g__law_copy, isiB, e]
    | scr xs => simp [okD] at h
    | dic xs => simp [okD] at h
    | ref k => simp [okD] at h
/-! ### the law's own numbers -/
@[simp] theorem ex_b {s t : Sl} {a b : Int} {A : AS} : b__law_exact_1 [s, t, .sh (.int a), .sh (.int b)] A = if 0 < b then .nx [s, t, .sh (.int b), .sh (.int (a % b))] A else .un := by
  by_cases h : 0 < b <;> simp [b__law_exact_1, h]
theorem ex_loop {s t : Sl} (a b : Nat) (A : AS) : sWhile (tst (eBin gtD (eVar 3) (eC (.int 0)))) b__law_exact_1 [s, t, .sh (.int a), .sh (.int b)] A = .nx [s, t, .sh (.int (Nat.gcd a b)), .sh (.int 0)] A := by
  have key : ∀ (n : Nat) (a b : Nat), b ≤ n → sWhile (tst (eBin gtD (eVar 3) (eC (.int 0)))) b__law_exact_1 [s, t, .sh (.int a), .sh (.int b)] A = .nx [s, t, .sh (.int (Nat.gcd a b)), .sh (.int 0)] A := by
    intro n
    induction n with
    | zero =>
      intro a b h
      have e : b = 0 := by omega
      subst e
      rw [sWhile_eq]
      simp
    | succ n ih =>
      intro a b h
      rw [sWhile_eq]
      by_cases hb : b = 0
      · subst hb; simp
      · have h1 : 0 < b := Nat.pos_of_ne_zero hb
        simp [h1]
        rw [← Int.natCast_emod, ih b (a % b) (by have := Nat.mod_lt a h1; omega), Nat.gcd_comm b, ← Nat.gcd_rec, Nat.gcd_comm]
  exact key b a b (Nat.le_refl _)
theorem max_nat (a : Int) : (if 0 - a > a then 0 - a else a) = (a.natAbs : Int) := by split <;> omega
theorem ediv_one_iff {d g : Nat} (h0 : 0 < g) (hd : g ∣ d) : (d : Int) / (g : Int) = 1 ↔ (d : Int) = g := by
  obtain ⟨k, rfl⟩ := hd
  rw [Int.natCast_mul, Int.mul_ediv_cancel_left _ (by omega)]
  constructor
  · intro h; rw [h]; omega
  · intro h
    have : (g : Int) * k = g * 1 := by omega
    exact Int.eq_of_mul_eq_mul_left (by omega) this
end K61

namespace K61
open PySem PySem.Spec Pv
theorem exact_nat (a : Int) (d : Nat) (A : AS) (h : d ≠ 0) (hd : d < 2 ^ 8000) : F__law_exact [.int a, .int d] A = .ok (numD (mkRat a d)) A := by
  have g0 : 0 < Nat.gcd a.natAbs d := Nat.gcd_pos_of_pos_right _ (Nat.pos_of_ne_zero h)
  have gl : Nat.gcd a.natAbs d < 2 ^ 8000 := Nat.lt_of_le_of_lt (Nat.gcd_le_right _ (Nat.pos_of_ne_zero h)) hd
  have gd := ediv_one_iff g0 (Nat.gcd_dvd_right a.natAbs d)
  rw [F__law_exact, runF_d]
  have e0 : ¬ ((d : Int) < 0) := by omega
  have em := max_nat a
  simp only [gt_iff_lt, Int.zero_sub] at em
  have el := fun (s t : Sl) => ex_loop (s := s) (t := t) a.natAbs d A
  simp [g__law_exact, e0, em, el, divOk_of g0 gl, numD_mk h, gd]
  by_cases e : (d : Int) = (Nat.gcd a.natAbs d : Nat)
  · have e' : ((Nat.gcd a.natAbs d : Nat) : Int) = d := e.symm
    have e1 : (d : Int) / (Nat.gcd a.natAbs d : Nat) = 1 := gd.mpr e
    simp [e, e1, divOk_of g0 gl]
  · have e' : ¬ ((Nat.gcd a.natAbs d : Nat) : Int) = d := fun z => e z.symm
    have e1 : ¬ (d : Int) / (Nat.gcd a.natAbs d : Nat) = 1 := fun z => e (gd.mp z)
    simp [e, e', e1, divOk_of g0 gl]
theorem two_ok (q : Rat) (A : AS) : F__law_two [numD q] A = .ok (tupQ q) A := by
  rw [F__law_two, runF_d]
  unfold numD tupQ
  by_cases h : q.den = 1 <;> simp [g__law_two, h, isiB]
theorem lmul_ok (p q : Rat) (A : AS) (h1 : Bnd p) (h2 : Bnd q) : F__law_mul [numD p, numD q] A = .ok (numD (p * q)) A := by
  have hb : p.den * q.den ≠ 0 := Nat.mul_ne_zero p.den_nz q.den_nz
  have hl : p.den * q.den < 2 ^ 8000 := Nat.lt_trans (mul_lt' h1.2 h2.2) (Nat.pow_lt_pow_right (by decide) (by decide))
  have e := exact_nat (p.num * q.num) (p.den * q.den) A hb hl
  have e2 : mkRat (p.num * q.num) (p.den * q.den) = p * q := by rw [← Rat.mkRat_mul_mkRat, Rat.mkRat_self, Rat.mkRat_self]
  rw [e2, Int.natCast_mul] at e
  rw [F__law_mul, runF_d]
  simp [g__law_mul, two_ok, tupQ, mulOk_of h1.n4 h2.n4, mulOk_of h1.d4 h2.d4, e]
theorem lless_ok (p q : Rat) (A : AS) (h1 : Bnd p) (h2 : Bnd q) : F__law_less [numD p, numD q] A = .ok (.bl (decide (p < q))) A := by
  rw [F__law_less, runF_d]
  simp [g__law_less, two_ok, tupQ, mulOk_of h1.n4 h2.d4, mulOk_of h2.n4 h1.d4]
  rw [Rat.lt_iff]
/-- numbers as the law draws them -/
def Drawn (q : Rat) : Prop := ∃ (a : Int) (d : Nat), q = mkRat a d ∧ a.natAbs ≤ 100 ∧ 0 < d ∧ d ≤ 100
theorem num_le {a : Int} {d : Nat} (hd : 0 < d) : (mkRat a d).num.natAbs ≤ a.natAbs ∧ (mkRat a d).den ≤ d := by
  rw [Rat.num_mkRat, Rat.den_mkRat, if_neg (by omega), if_neg (by omega)]
  refine ⟨?_, Nat.div_le_self _ _⟩
  exact Int.natAbs_ediv_le_natAbs a _
theorem lt2000 {n : Nat} (h : n ≤ 100000) : n < 2 ^ 2000 := Nat.lt_of_le_of_lt h (Nat.lt_of_lt_of_le (show 100000 < 2 ^ 17 by decide) (Nat.pow_le_pow_right (by decide) (by decide)))
theorem Drawn.bnd {q : Rat} (h : Drawn q) : Bnd q := by
  obtain ⟨a, d, rfl, h1, h2, h3⟩ := h
  have k := num_le (a := a) h2
  exact ⟨lt2000 (by omega), lt2000 (by omega)⟩
theorem number_ok {c : Cell} {B : AS} (h : DrC c) : ∃ q c', F__law_number [.ref 0] (c :: B) = .ok (numD q) (c' :: B) ∧ Drawn q ∧ DrC c' := by
  obtain ⟨v, c1, e1, v0, v1, h1⟩ := draw_ok (B := B) h (L := 41) (by decide) (by decide)
  obtain ⟨u, c2, e2, u0, u1, h2⟩ := draw_ok (B := B) h1 (L := 4) (by decide) (by decide)
  have key : ∃ d : Nat, L2.atI [D.int 1, .int 1, .int 2, .int 3] u = some (.int (d : Int)) ∧ 0 < d ∧ d ≤ 3 := by
    obtain ⟨k, rfl⟩ := Int.eq_ofNat_of_zero_le u0
    have hk : k = 0 ∨ k = 1 ∨ k = 2 ∨ k = 3 := by omega
    rcases hk with rfl | rfl | rfl | rfl
    · exact ⟨1, rfl, by decide, by decide⟩
    · exact ⟨1, rfl, by decide, by decide⟩
    · exact ⟨2, rfl, by decide, by decide⟩
    · exact ⟨3, rfl, by decide, by decide⟩
  obtain ⟨d, ed, hd, hd2⟩ := key
  refine ⟨mkRat (v - 20) d, c2, ?_, ⟨v - 20, d, rfl, by omega, hd, by omega⟩, h2⟩
  rw [F__law_number, runF_d]
  simp [g__law_number, e1, e2, ed, exact_nat (v - 20) d _ (by omega) (Nat.lt_of_le_of_lt hd2 (Nat.lt_of_lt_of_le (show 3 < 2 ^ 2 by decide) (Nat.pow_le_pow_right (by decide) (by decide))))]
/-! ### order -/
theorem cut_to {α : Type} {xs : List α} {n : Nat} : cutL xs none (some (n : Int)) = xs.take n := by
  unfold cutL
  rw [HT.sIx_none, HT.sIx_nat]
  rw [List.drop_zero, Nat.sub_zero]
  rcases Nat.le_total n xs.length with h | h
  · rw [Nat.min_eq_left h]
  · rw [Nat.min_eq_right h, List.take_of_length_le (Nat.le_refl _), List.take_of_length_le h]
theorem cut_from {α : Type} {xs : List α} {n : Nat} : cutL xs (some (n : Int)) none = xs.drop n := by
  unfold cutL
  rw [HT.sIx_none, HT.sIx_nat]
  rcases Nat.le_total n xs.length with h | h
  · rw [Nat.min_eq_left h, List.take_of_length_le (by simp)]
  · rw [Nat.min_eq_right h, Nat.sub_self, List.take_zero, List.drop_of_length_le h]
def insQ (l : List Rat) (v : Rat) : List Rat := l.take (l.countP fun o => !decide (v < o)) ++ v :: l.drop (l.countP fun o => !decide (v < o))
def ordQ (vs : List Rat) : List Rat := vs.foldl insQ []
def Srt (l : List Rat) : Prop := l.Pairwise (· ≤ ·)
theorem cut_srt {v : Rat} : ∀ {l : List Rat}, Srt l → l.take (l.countP fun o => !decide (v < o)) = l.filter (fun o => !decide (v < o)) ∧ l.drop (l.countP fun o => !decide (v < o)) = l.filter (fun o => decide (v < o))
  | [], _ => ⟨rfl, rfl⟩
  | x :: r, h => by
    have hr := (List.pairwise_cons.mp h).2
    have hx := (List.pairwise_cons.mp h).1
    have ih := cut_srt (v := v) hr
    by_cases c : v < x
    · have e0 : ∀ y ∈ r, v < y := fun y hy => by have := hx y hy; grind
      have e1 : r.filter (fun o => !decide (v < o)) = [] := by
        rw [List.filter_eq_nil_iff]
        intro y hy
        simp [e0 y hy]
      have e2 : r.countP (fun o => !decide (v < o)) = 0 := by rw [List.countP_eq_length_filter, e1]; rfl
      have e3 : r.filter (fun o => decide (v < o)) = r := by
        rw [List.filter_eq_self]
        intro y hy
        simp [e0 y hy]
      simp [c, e1, e2, e3, List.countP_cons]
    · simp [c, List.countP_cons, ih.1, ih.2]
theorem insQ_eq {l : List Rat} {v : Rat} (h : Srt l) : insQ l v = l.filter (fun o => !decide (v < o)) ++ v :: l.filter (fun o => decide (v < o)) := by
  unfold insQ
  rw [(cut_srt h).1, (cut_srt h).2]
theorem insQ_srt {l : List Rat} {v : Rat} (h : Srt l) : Srt (insQ l v) := by
  rw [insQ_eq h]
  refine List.pairwise_append.mpr ⟨h.filter _, List.pairwise_cons.mpr ⟨fun y hy => ?_, h.filter _⟩, fun a ha b hb => ?_⟩
  · have := (List.mem_filter.mp hy).2
    simp at this
    grind
  · have h1 := (List.mem_filter.mp ha).2
    simp at h1
    rcases List.mem_cons.mp hb with rfl | hb
    · grind
    · have h2 := (List.mem_filter.mp hb).2
      simp at h2
      grind
theorem insQ_perm (l : List Rat) (v : Rat) : (insQ l v).Perm (v :: l) := by
  unfold insQ
  refine List.perm_middle.trans ?_
  rw [List.take_append_drop]
theorem ordQ_go : ∀ (vs acc : List Rat), Srt acc → Srt (vs.foldl insQ acc) ∧ (vs.foldl insQ acc).Perm (vs ++ acc)
  | [], acc, h => ⟨h, List.Perm.refl _⟩
  | v :: vs, acc, h => by
    obtain ⟨h1, h2⟩ := ordQ_go vs (insQ acc v) (insQ_srt h)
    refine ⟨h1, h2.trans ?_⟩
    refine ((List.Perm.append_left vs (insQ_perm acc v))).trans ?_
    exact List.perm_middle
theorem ordQ_srt (vs : List Rat) : Srt (ordQ vs) := (ordQ_go vs [] List.Pairwise.nil).1
theorem ordQ_perm (vs : List Rat) : (ordQ vs).Perm vs := by
  have := (ordQ_go vs [] List.Pairwise.nil).2
  rw [List.append_nil] at this
  exact this
theorem mapQ (l : List Rat) : (l.map numD).length = l.length := List.length_map ..
/-- the ones that are not greater, within a list -/
theorem filt_ok {F : Fn} {tgt : D → Pv.Env → Option Pv.Env} {δ : Pv.Env} {vs : List Nat} {src : Pv.Env → M (List D)} {tt : Pv.Env → M Bool} {el : Pv.Env → M D} {A : AS} {l : List Rat} {P : Rat → Bool} (hs : src δ A = .ok (l.map numD) A) (hl : l.length ≤ 1000000)
    (h : ∀ q ∈ l, ∃ δ1, tgt (numD q) (wipeE δ vs) = some δ1 ∧ tt δ1 A = .ok (P q) A ∧ el δ1 A = .ok (numD q) A) : eLc vs src tgt tt el δ A = .ok ((l.filter P).map numD) A := by
  have key : ∀ (l acc : List Rat), (∀ q ∈ l, ∃ δ1, tgt (numD q) (wipeE δ vs) = some δ1 ∧ tt δ1 A = .ok (P q) A ∧ el δ1 A = .ok (numD q) A) → acc.length + l.length ≤ 1000000 →
      lcN tgt tt el (wipeE δ vs) (l.map numD) (acc.map numD) A = .ok ((acc ++ l.filter P).map numD) A := by
    intro l
    induction l with
    | nil => intro acc _ _; simp [lcN]
    | cons q l ih =>
      intro acc h hl
      obtain ⟨δ1, h1, h2, h3⟩ := h q List.mem_cons_self
      have hl' : acc.length + l.length + 1 ≤ 1000000 := by simpa [Nat.add_assoc] using hl
      rw [List.map_cons]
      unfold lcN
      rw [h1]
      dsimp only
      rw [h2]
      simp only [R.noex_ok, R.bind_ok]
      cases hp : P q with
      | false =>
        rw [if_neg Bool.false_ne_true, ih acc (fun d hd => h d (List.mem_cons_of_mem _ hd)) (by omega)]
        simp [hp]
      | true =>
        rw [if_pos rfl, h3]
        simp only [R.noex_ok, R.bind_ok]
        have e : acc.map numD ++ [numD q] = (acc ++ [q]).map numD := by simp
        rw [if_pos (szOk_of (by rw [mapQ]; omega)), e, ih (acc ++ [q]) (fun d hd => h d (List.mem_cons_of_mem _ hd)) (by simp; omega)]
        simp [hp]
  unfold eLc
  rw [hs]
  simp only [R.bind_ok]
  have := key l [] h (by simpa using hl)
  simpa using this
theorem order_ok (vs : List Rat) (A : AS) (hb : ∀ q ∈ vs, Bnd q) (hl : vs.length ≤ 1000) : F__law_order [.lst (vs.map numD)] A = .ok (.lst ((ordQ vs).map numD)) A := by
  have step : ∀ k δ A' d, (vs.map numD)[k]? = some d → (A' = A ∧ ∃ x y z, δ = [.sh (.lst (vs.map numD)), .sh (.lst (((vs.take k).foldl insQ []).map numD)), x, y, z]) →
      ∃ δ1 δ2 A2, gN 2 d δ = some δ1 ∧ (b__law_order_1 F__law_less δ1 A' = .nx δ2 A2 ∨ b__law_order_1 F__law_less δ1 A' = .ct δ2 A2) ∧ (A2 = A ∧ ∃ x y z, δ2 = [.sh (.lst (vs.map numD)), .sh (.lst (((vs.take (k + 1)).foldl insQ []).map numD)), x, y, z]) := by
    intro k δ A' d hd hI
    obtain ⟨rfl, x, y, z, rfl⟩ := hI
    rw [List.getElem?_map] at hd
    have hk : k < vs.length := by
      rcases Nat.lt_or_ge k vs.length with h | h
      · exact h
      · rw [List.getElem?_eq_none h] at hd; cases hd
    rw [List.getElem?_eq_getElem hk] at hd
    obtain rfl := Option.some.inj hd
    have hL : ((vs.take k).foldl insQ []).length = k := by
      have := (ordQ_go (vs.take k) [] List.Pairwise.nil).2.length_eq
      rw [this]
      simp
      omega
    have hB : ∀ q ∈ (vs.take k).foldl insQ [], Bnd q := fun q hq => hb q (List.mem_of_mem_take (by simpa using (ordQ_go (vs.take k) [] List.Pairwise.nil).2.mem_iff.mp hq))
    have hv : Bnd vs[k] := hb _ (List.getElem_mem hk)
    have el := filt_ok (F := F__law_less) (A := A') (δ := [.sh (.lst (vs.map numD)), .sh (.lst (((vs.take k).foldl insQ []).map numD)), .sh (numD vs[k]), y, z]) (vs := [4]) (src := wSeq (eVar 1)) (tgt := gN 4) (tt := cNot (tst (eCall 2 F__law_less (aCons (eVar 2) (aCons (eVar 4) aNil))))) (el := eVar 4)
      (l := (vs.take k).foldl insQ []) (P := fun o => !decide (vs[k] < o)) (wSeq_lst (by simp)) (by omega) fun q hq => ⟨_, gN_d, by simp [wipeE, lless_ok _ _ _ hv (hB q hq)], by simp [wipeE]⟩
    rw [show vs.take (k + 1) = vs.take k ++ [vs[k]] from (List.take_append_getElem hk).symm, List.foldl_append]
    refine ⟨_, [.sh (.lst (vs.map numD)), .sh (.lst (((insQ ((vs.take k).foldl insQ []) vs[k])).map numD)), .sh (numD vs[k]), .sh (.int (((vs.take k).foldl insQ []).countP fun o => !decide (vs[k] < o))), z], A', gN_d, .inl ?_, rfl, _, _, _, rfl⟩
    have hc : (((vs.take k).foldl insQ []).countP fun o => !decide (vs[k] < o)) ≤ k := by
      have := List.countP_le_length (p := fun o => !decide (vs[k] < o)) (l := (vs.take k).foldl insQ [])
      omega
    simp [b__law_order_1, el, ← List.countP_eq_length_filter, slF, asR, asL, cut_to, cut_from, catD, insQ, List.map_take, List.map_drop, hL]
    generalize (List.foldl insQ [] (List.take k vs)).countP (fun o => !decide (vs[k] < o)) = c at hc ⊢
    have q1 : min c k ≤ 16777215 := by omega
    have q2 : min c k + 1 + (k - c) ≤ 16777216 := by omega
    simp [q1, hL]
    simp [q2]
  have h0 : (wSeq (eVar 0)) [.sh (.lst (vs.map numD)), .sh (.lst []), .un, .un, .un] A = .ok (vs.map numD) A := wSeq_lst (by simp)
  obtain ⟨δ', A2, e, rfl, x, y, z, rfl⟩ := sFor_inv (I := fun k δ A' => A' = A ∧ ∃ x y z, δ = [.sh (.lst (vs.map numD)), .sh (.lst (((vs.take k).foldl insQ []).map numD)), x, y, z]) h0 ⟨rfl, _, _, _, rfl⟩ step
  rw [F__law_order, runF_d]
  simp [g__law_order, e]
  rfl
end K61

namespace K61
open PySem PySem.Spec Pv
/-! ### counted -/
def cnt (vs : List Rat) (b : Rat) : Nat := (vs.filter fun v => !decide (b < v)).length
def dueD (vs bs : List Rat) : List D := bs.map (fun b => .tup [numD b, .int (cnt vs b)]) ++ [.tup [.str "all", .int vs.length]]
def Asc (bs : List Rat) : Prop := bs.Pairwise (· < ·)
/-- one turn of the first loop of counted -/
theorem count_step {vs : D} {pre post : List D} {d : D} {x : Sl} {y z u : Sl} {A : AS} (h : F_is_number [d] A = .ok (.bl true) A)
    (h2 : pre ≠ [] → ∃ p, pre.getLast? = some p ∧ F_less [p, d] A = .ok (.bl true) A) :
    b_counted_1 F_is_number F_less [.sh vs, .sh (.lst (pre ++ d :: post)), .sh (.int pre.length), y, z, u] A = .nx [.sh vs, .sh (.lst (pre ++ d :: post)), .sh (.int pre.length), y, z, u] A := by
  have ea : L2.atI (pre ++ d :: post) (pre.length : Int) = some d := L2.atI_nat (by simp)
  simp [b_counted_1, ea, h]
  by_cases hp : pre = []
  · subst hp; simp
  · obtain ⟨p, e1, e2⟩ := h2 hp
    have hl : 0 < pre.length := List.length_pos_iff.mpr hp
    have eb : L2.atI (pre ++ d :: post) ((pre.length : Int) - 1) = some p := by
      rw [show (pre.length : Int) - 1 = ((pre.length - 1 : Nat) : Int) by omega]
      refine L2.atI_nat ?_
      rw [List.getElem?_append_left (by omega), ← List.getLast?_eq_getElem?]
      exact e1
    simp [hl, ea, eb, e2]
theorem count_stop {vs : D} {pre post : List D} {d : D} {y z u : Sl} {A : AS} {b : Bool} (h : F_is_number [d] A = .ok (.bl b) A)
    (h2 : b = true → ∃ p, pre.getLast? = some p ∧ F_less [p, d] A = .ok (.bl false) A) :
    b_counted_1 F_is_number F_less [.sh vs, .sh (.lst (pre ++ d :: post)), .sh (.int pre.length), y, z, u] A = .ex ⟨"Wrong", .int pre.length⟩ [.sh vs, .sh (.lst (pre ++ d :: post)), .sh (.int pre.length), y, z, u] A := by
  have ea : L2.atI (pre ++ d :: post) (pre.length : Int) = some d := L2.atI_nat (by simp)
  simp [b_counted_1, ea, h]
  cases b with
  | false => simp
  | true =>
    obtain ⟨p, e1, e2⟩ := h2 rfl
    have hp : pre ≠ [] := fun z => by subst z; cases e1
    have hl : 0 < pre.length := List.length_pos_iff.mpr hp
    have eb : L2.atI (pre ++ d :: post) ((pre.length : Int) - 1) = some p := by
      rw [show (pre.length : Int) - 1 = ((pre.length - 1 : Nat) : Int) by omega]
      refine L2.atI_nat ?_
      rw [List.getElem?_append_left (by omega), ← List.getLast?_eq_getElem?]
      exact e1
    simp [hl, ea, eb, e2]
theorem split_at {bs : List Rat} {k : Nat} (h : k < bs.length) : bs.map numD = (bs.take k).map numD ++ numD bs[k] :: (bs.drop (k + 1)).map numD := by
  conv => lhs; rw [← List.take_append_drop k bs, List.drop_eq_getElem_cons h]
  rw [List.map_append, List.map_cons]
theorem asc_prev {bs : List Rat} (ha : Asc bs) {k : Nat} (h : k < bs.length) (hp : (bs.take k).map numD ≠ []) : ∃ p ∈ bs, ((bs.take k).map numD).getLast? = some (numD p) ∧ p < bs[k] := by
  have h0 : 0 < k := by
    rcases Nat.eq_zero_or_pos k with z | z
    · subst z; simp at hp
    · exact z
  refine ⟨bs[k - 1], List.getElem_mem _, ?_, ?_⟩
  · rw [List.getLast?_eq_getElem?, List.length_map, List.length_take, Nat.min_eq_left (by omega), List.getElem?_map, List.getElem?_take_of_lt (by omega), List.getElem?_eq_getElem (by omega)]
    rfl
  · exact List.pairwise_iff_getElem.mp ha (k - 1) k (by omega) h (by omega)
/-- the turns over right bounds -/
theorem count_turn {vs : D} {post : List D} {y z u : Sl} (bs : List Rat) (hb : ∀ q ∈ bs, Bnd q) (ha : Asc bs) (k : Nat) (δ : Pv.Env) (A A0 : AS) (d : D) (n : Nat) (hn : n ≤ bs.length) (hd : (rngL 0 n)[k]? = some d)
    (hI : A = A0 ∧ ∃ x, δ = [.sh vs, .sh (.lst (bs.map numD ++ post)), x, y, z, u]) : ∃ δ1 δ2 A2, gN 2 d δ = some δ1 ∧ (b_counted_1 F_is_number F_less δ1 A = .nx δ2 A2 ∨ b_counted_1 F_is_number F_less δ1 A = .ct δ2 A2) ∧ (A2 = A0 ∧ ∃ x, δ2 = [.sh vs, .sh (.lst (bs.map numD ++ post)), x, y, z, u]) := by
  obtain ⟨rfl, x, rfl⟩ := hI
  obtain ⟨hk, rfl⟩ := rngL_get hd
  have hk2 : k < bs.length := by omega
  have e0 : bs.map numD ++ post = (bs.take k).map numD ++ numD bs[k] :: ((bs.drop (k + 1)).map numD ++ post) := by
    rw [split_at hk2]; simp
  have el : ((bs.take k).map numD).length = k := by simp; omega
  have st := count_step (vs := vs) (pre := (bs.take k).map numD) (post := (bs.drop (k + 1)).map numD ++ post) (d := numD bs[k]) (x := x) (y := y) (z := z) (u := u) (A := A) (is_number_q _ _) fun hp => by
    obtain ⟨p, hp1, hp2, hp3⟩ := asc_prev ha hk2 hp
    exact ⟨numD p, hp2, by rw [less_ok p _ A (hb p hp1) (hb _ (List.getElem_mem hk2)), decide_eq_true hp3]⟩
  rw [← e0, el] at st
  refine ⟨_, _, A, gN_d, .inl ?_, rfl, .sh (.int k), rfl⟩
  rw [Int.zero_add]
  exact st
theorem counted_ok (vs bs : List Rat) (A : AS) (hv : ∀ q ∈ vs, Bnd q) (hb : ∀ q ∈ bs, Bnd q) (ha : Asc bs) (h1 : vs.length ≤ 1000) (h2 : bs.length ≤ 1000) : F_counted [.lst (vs.map numD), .lst (bs.map numD)] A = .ok (.lst (dueD vs bs)) A := by
  have e1 : (wRng1 (aCons (eB (one lenOne) (aCons (eVar 1) aNil)) aNil)) [.sh (.lst (vs.map numD)), .sh (.lst (bs.map numD)), .un, .un, .un, .un] A = .ok (rngL 0 (bs.length : Int).toNat) A := wRng1_ok (by simp) (by constructor <;> omega)
  obtain ⟨δ', A2, e2, rfl, x, rfl⟩ := sFor_inv (tgt := gN 2) (body := b_counted_1 F_is_number F_less) (I := fun k δ A' => A' = A ∧ ∃ x, δ = [.sh (.lst (vs.map numD)), .sh (.lst (bs.map numD ++ [])), x, .un, .un, .un]) e1 ⟨rfl, .un, by simp⟩
    fun k δ A' d hd hI => count_turn bs hb ha k δ A' A d _ (by simp) hd hI
  have e3 : ∀ (b : Rat), b ∈ bs → ∀ s : Sl, eLc [4] (wSeq (eVar 0)) (gN 4) (cNot (tst (eCall 2 F_less (aCons (eVar 5) (aCons (eVar 4) aNil))))) (eVar 4) [.sh (.lst (vs.map numD)), .sh (.lst (bs.map numD)), x, .un, s, .sh (numD b)] A2 = .ok ((vs.filter fun v => !decide (b < v)).map numD) A2 := by
    intro b hbm s
    refine eLc_of (F := numD) (G := numD) (wSeq_lst (by simp)) (by omega) fun q hq => ⟨_, gN_d, by simp [wipeE, less_ok _ _ _ (hb b hbm) (hv q hq)], fun _ => by simp [wipeE]⟩
  have e4 : eLc [5] (wSeq (eVar 1)) (gN 5) cYes (eTup (aCons (eVar 5) (aCons (eB (one lenOne) (aCons (fLst (eLc [4] (wSeq (eVar 0)) (gN 4) (cNot (tst (eCall 2 F_less (aCons (eVar 5) (aCons (eVar 4) aNil))))) (eVar 4))) aNil)) aNil))) [.sh (.lst (vs.map numD)), .sh (.lst (bs.map numD)), x, .un, .un, .un] A2 = .ok (bs.map fun b => .tup [numD b, .int (cnt vs b)]) A2 := by
    refine eLc_mapOf (F := numD) (wSeq_lst (by simp)) (by omega) fun b hbm => ⟨_, gN_d, ?_⟩
    simp [wipeE, e3 b hbm, cnt]
  rw [F_counted, runF_d]
  simp only [List.append_nil] at e2
  have q1 : bs.length ≤ 16777215 := by omega
  simp [g_counted, e2, e4, catD, asL, dueD, q1]
theorem counted_bad (vs : D) (bs : List Rat) (d : D) (post : List D) (A : AS) {b : Bool} (hb : ∀ q ∈ bs, Bnd q) (ha : Asc bs) (h2 : bs.length + 1 + post.length ≤ 1000) (h : F_is_number [d] A = .ok (.bl b) A)
    (h3 : b = true → ∃ p, bs.getLast? = some p ∧ F_less [numD p, d] A = .ok (.bl false) A) : F_counted [vs, .lst (bs.map numD ++ d :: post)] A = .ex ⟨"Wrong", .int bs.length⟩ A := by
  have e1 : (wRng1 (aCons (eB (one lenOne) (aCons (eVar 1) aNil)) aNil)) [.sh vs, .sh (.lst (bs.map numD ++ d :: post)), .un, .un, .un, .un] A = .ok (rngL 0 ((bs.map numD ++ d :: post).length : Int).toNat) A := wRng1_ok (by simp) (by
    simp only [List.length_append, List.length_map, List.length_cons]
    constructor <;> omega)
  have el : bs.length < ((bs.map numD ++ d :: post).length : Int).toNat := by
    rw [Int.toNat_natCast, List.length_append, List.length_map, List.length_cons]
    omega
  rw [rngL_split el] at e1
  obtain ⟨δ', A2, e2, rfl, x, rfl⟩ := forL_pre (tgt := gN 2) (body := b_counted_1 F_is_number F_less) (xs := rngL 0 bs.length) (ys := .int ((0 : Int) + bs.length) :: (rngL 0 ((bs.map numD ++ d :: post).length : Int).toNat).drop (bs.length + 1)) (I := fun k δ A' => A' = A ∧ ∃ x, δ = [.sh vs, .sh (.lst (bs.map numD ++ d :: post)), x, .un, .un, .un]) (δ := [.sh vs, .sh (.lst (bs.map numD ++ d :: post)), .un, .un, .un, .un]) (A := A) ⟨rfl, .un, rfl⟩
    fun k δ A' d' hd hI => count_turn bs hb ha k δ A' A d' _ (Nat.le_refl _) hd hI
  have st := count_stop (vs := vs) (pre := bs.map numD) (post := post) (d := d) (y := .un) (z := .un) (u := .un) (A := A2) h fun hbt => by
    obtain ⟨p, hp, hl⟩ := h3 hbt
    exact ⟨numD p, by rw [List.getLast?_map, hp]; rfl, hl⟩
  have e5 : sFor (wRng1 (aCons (eB (one lenOne) (aCons (eVar 1) aNil)) aNil)) (gN 2) (b_counted_1 F_is_number F_less) [.sh vs, .sh (.lst (bs.map numD ++ d :: post)), .un, .un, .un, .un] A2 = .ex ⟨"Wrong", .int bs.length⟩ [.sh vs, .sh (.lst (bs.map numD ++ d :: post)), .sh (.int bs.length), .un, .un, .un] A2 := by
    unfold sFor
    rw [e1]
    show forL _ _ _ _ _ = _
    rw [e2]
    unfold forL
    rw [gN_d]
    dsimp only
    rw [Int.zero_add]
    rw [List.length_map] at st
    rw [show sset [.sh vs, .sh (.lst (bs.map numD ++ d :: post)), x, .un, .un, .un] 2 (.sh (.int (bs.length : Int))) = [.sh vs, .sh (.lst (bs.map numD ++ d :: post)), .sh (.int bs.length), .un, .un, .un] from rfl, st]
  rw [F_counted, runF_d]
  simp [g_counted, e5]
end K61

namespace K61
open PySem PySem.Spec Pv
theorem numD_int (n : Int) : numD (n : Rat) = .int n := by
  unfold numD
  rw [if_pos (Rat.den_intCast n), Rat.num_intCast]
theorem bnd_int {n : Int} (h : n.natAbs < 2 ^ 2000) : Bnd (n : Rat) := ⟨by rw [Rat.num_intCast]; exact h, by rw [Rat.den_intCast]; exact lt2000 (by decide)⟩
theorem den_small {q p : Rat} (h1 : Bnd p) (h2 : Bnd q) : (p * q).den < 2 ^ 8000 := by
  rw [← mul_q p q]
  have hp := p.den_pos
  have hq := q.den_pos
  rw [← Int.natCast_mul, Rat.divInt_ofNat]
  exact Nat.lt_of_le_of_lt (num_le (Nat.mul_pos hp hq)).2 (Nat.lt_trans (mul_lt' h1.2 h2.2) (Nat.pow_lt_pow_right (by decide) (by decide)))
theorem rank_ok (q : Rat) (m : Int) (A : AS) (hq : Bnd q) (hm : (m - 1).natAbs < 2 ^ 2000) : F_rank_at [numD q, .int m] A = .ok (.int (q * ((m - 1 : Int) : Rat)).floor) A := by
  have e := mul_ok q ((m - 1 : Int) : Rat) A hq (bnd_int hm)
  rw [numD_int] at e
  have hd := den_small hq (bnd_int hm)
  rw [F_rank_at, runF_d]
  have hp := (q * ((m - 1 : Int) : Rat)).den_pos
  have ho := divOk_of hp hd
  generalize q * ((m - 1 : Int) : Rat) = p at e ho ⊢
  rw [Rat.floor_def]
  by_cases h : p.den = 1
  · rw [show numD p = .int p.num from if_pos h] at e
    simp [g_rank_at, e, isiB, h]
  · rw [show numD p = .tup [.int p.num, .int p.den] from if_neg h] at e
    simp [g_rank_at, e, isiB, ho]
/-- the value of a rank, and the counts -/
theorem cnt_le {vs : List Rat} {b : Rat} {r : Nat} (h : r < (ordQ vs).length) : cnt vs b ≤ r ↔ b < (ordQ vs)[r] := by
  have e1 : cnt vs b = (ordQ vs).countP (fun o => !decide (b < o)) := by
    unfold cnt
    rw [← List.countP_eq_length_filter]
    exact ((ordQ_perm vs).countP_eq _).symm
  obtain ⟨c1, c2⟩ := cut_srt (v := b) (ordQ_srt vs)
  rw [e1]
  constructor
  · intro hc
    have hm : (ordQ vs)[r] ∈ (ordQ vs).drop ((ordQ vs).countP fun o => !decide (b < o)) := by
      rw [List.mem_drop_iff_getElem]
      exact ⟨r - (ordQ vs).countP (fun o => !decide (b < o)), by omega, by congr 1; omega⟩
    rw [c2] at hm
    simpa using (List.mem_filter.mp hm).2
  · intro hb
    refine Nat.le_of_not_lt fun hlt => ?_
    have hm : (ordQ vs)[r] ∈ (ordQ vs).take ((ordQ vs).countP fun o => !decide (b < o)) := by
      rw [List.mem_take_iff_getElem]
      exact ⟨r, by omega, rfl⟩
    rw [c1] at hm
    have := (List.mem_filter.mp hm).2
    simp at this
    grind
/-- below the value, at it and above -/
theorem cut_asc {v : Rat} : ∀ {bs : List Rat}, Asc bs → bs.take (bs.countP fun b => decide (b < v)) = bs.filter (fun b => decide (b < v)) ∧ bs.drop (bs.countP fun b => decide (b < v)) = bs.filter (fun b => !decide (b < v))
  | [], _ => ⟨rfl, rfl⟩
  | x :: r, h => by
    have hr := (List.pairwise_cons.mp h).2
    have hx := (List.pairwise_cons.mp h).1
    have ih := cut_asc (v := v) hr
    by_cases c : x < v
    · simp [c, List.countP_cons, ih.1, ih.2]
    · have e0 : ∀ y ∈ r, ¬ y < v := fun y hy => by have := hx y hy; grind
      have e1 : r.filter (fun o => decide (o < v)) = [] := by
        rw [List.filter_eq_nil_iff]
        intro y hy
        simp [e0 y hy]
      have e2 : r.countP (fun o => decide (o < v)) = 0 := by rw [List.countP_eq_length_filter, e1]; rfl
      have e3 : r.filter (fun o => !decide (o < v)) = r := by
        rw [List.filter_eq_self]
        intro y hy
        simp [e0 y hy]
      simp [c, e1, e2, e3, List.countP_cons]
theorem range_split {n k : Nat} (h : k < n) : List.range n = List.range k ++ k :: (List.range n).drop (k + 1) := by
  have g : (List.range n)[k]? = some k := List.getElem?_range h
  have hk : k < (List.range n).length := by simpa using h
  conv => lhs; rw [← List.take_append_drop k (List.range n), List.drop_eq_getElem_cons hk]
  rw [List.take_range, Nat.min_eq_left (by omega), List.getElem_range]
theorem range_from {n k : Nat} (h : k < n) : ∃ r, (List.range n).filter (fun j => decide (k ≤ j)) = k :: r := by
  have e : (List.range k).filter (fun j => decide (k ≤ j)) = [] := by
    rw [List.filter_eq_nil_iff]
    intro j hj
    have := List.mem_range.mp hj
    simp
    omega
  refine ⟨((List.range n).drop (k + 1)).filter fun j => decide (k ≤ j), ?_⟩
  conv => lhs; rw [range_split h, List.filter_append, e]
  simp
def lowD (l : List Rat) : D := match l.getLast? with
  | some b => numD b
  | none => .non
def highD (l : List Rat) : D := match l.head? with
  | some b => numD b
  | none => .non
theorem due_at {vs bs : List Rat} {k : Nat} (h : k < bs.length) : L2.atI (dueD vs bs) (k : Int) = some (.tup [numD bs[k], .int (cnt vs bs[k])]) := L2.atI_nat (by
  unfold dueD
  rw [List.getElem?_append_left (by simpa using h), List.getElem?_map, List.getElem?_eq_getElem h]
  rfl)
theorem due_end {vs bs : List Rat} : L2.atI (dueD vs bs) (bs.length : Int) = some (.tup [.str "all", .int vs.length]) := L2.atI_nat (by
  unfold dueD
  rw [List.getElem?_append_right (by simp)]
  simp)
theorem due_len {vs bs : List Rat} : (dueD vs bs).length = bs.length + 1 := by simp [dueD]
theorem eq_num_all (q : Rat) (A : AS) : eqD (numD q) (.str "all") A = .ok (.bl false) A := by
  unfold numD
  by_cases h : q.den = 1
  · rw [if_pos h, eqD_flat rfl]
    rfl
  · rw [if_neg h]
    have s1 : shp (.tup [.int q.num, .int q.den]) = true := by
      simp [shp, D.plain, D.plains, D.py, D.pys, SeqAt.shaped, PyData.canLay0, PyData.canLayAll0, PyData.depth, PyData.depthAll]
    have s2 : shp (.str "all") = true := by decide +kernel
    unfold eqD
    rw [if_neg (by simp [flatD]), s1, s2, if_pos (show (true && true) = true from rfl)]
    rfl
theorem eq_all_all (A : AS) : eqD (.str "all") (.str "all") A = .ok (.bl true) A := by
  rw [eqD_flat rfl, eqv_str]
theorem share_none (q : Rat) (bs : List Rat) (A : AS) : F_share_bounds [numD q, .lst (dueD [] bs)] A = .ok .non A := by
  rw [F_share_bounds, runF_d]
  have e : L2.atI (dueD [] bs) (-1) = some (.tup [.str "all", .int 0]) := L2.atI_last _ _
  simp [g_share_bounds, e]
theorem share_ok (q : Rat) (vs bs : List Rat) (A : AS) (hq : Bnd q) (hv : vs ≠ []) (ha : Asc bs) (h1 : vs.length ≤ 1000) (h2 : bs.length ≤ 1000) (r : Nat) (hr : (q * ((vs.length - 1 : Int) : Rat)).floor = r) (hr2 : r < (ordQ vs).length) :
    F_share_bounds [numD q, .lst (dueD vs bs)] A = .ok (.tup [lowD (bs.filter fun b => decide (b < (ordQ vs)[r])), highD (bs.filter fun b => !decide (b < (ordQ vs)[r]))]) A := by
  have hl : vs.length ≠ 0 := fun z => hv (List.length_eq_zero_iff.mp z)
  obtain ⟨c1, c2⟩ := cut_asc (v := (ordQ vs)[r]) ha
  have hk : bs.countP (fun b => decide (b < (ordQ vs)[r])) ≤ bs.length := List.countP_le_length
  rw [← c1, ← c2]
  have lt_iff : ∀ j (hj : j < bs.length), cnt vs bs[j] ≤ r ↔ j < bs.countP (fun b => decide (b < (ordQ vs)[r])) := by
    intro j hj
    rw [cnt_le hr2]
    constructor
    · intro hb
      refine Nat.lt_of_not_le fun hle => ?_
      have hm : bs[j] ∈ bs.drop (bs.countP fun b => decide (b < (ordQ vs)[r])) := by
        rw [List.mem_drop_iff_getElem]
        exact ⟨j - bs.countP (fun b => decide (b < (ordQ vs)[r])), by omega, by congr 1; omega⟩
      rw [c2] at hm
      have := (List.mem_filter.mp hm).2
      simp [hb] at this
    · intro hlt
      have hm : bs[j] ∈ bs.take (bs.countP fun b => decide (b < (ordQ vs)[r])) := by
        rw [List.mem_take_iff_getElem]
        exact ⟨j, by omega, rfl⟩
      rw [c1] at hm
      simpa using (List.mem_filter.mp hm).2
  generalize bs.countP (fun b => decide (b < (ordQ vs)[r])) = k at hk lt_iff ⊢
  have hrn : r < vs.length := by rw [(ordQ_perm vs).length_eq] at hr2; exact hr2
  have e0 : L2.atI (dueD vs bs) (-1) = some (.tup [.str "all", .int vs.length]) := L2.atI_last _ _
  have er := rank_ok q vs.length A hq (Nat.lt_of_le_of_lt (show ((vs.length : Int) - 1).natAbs ≤ 1000 by omega) (lt2000 (by decide)))
  rw [show (((vs.length : Int) - 1 : Int) : Rat) = ((vs.length : Int) - 1 : Int) from rfl, hr] at er
  obtain ⟨rest, hrest⟩ := range_from (n := bs.length + 1) (k := k) (by omega)
  have e1 : ∀ (s t u : Sl), eLc [5] (wRng1 (aCons (eB (one lenOne) (aCons (eVar 1) aNil)) aNil)) (gN 5) (tst (eBin gtD (eBin ixD (eBin ixD (eVar 1) (eVar 5)) (eC (.int 1))) (eVar 3))) (eVar 5) [.sh (numD q), .sh (.lst (dueD vs bs)), s, .sh (.int r), t, .un, u] A = .ok ((k :: rest).map fun j : Nat => D.int j) A := by
    intro s t u
    rw [← hrest]
    refine eLc_of (F := fun j : Nat => D.int (0 + (j : Int))) (G := fun j : Nat => D.int j) (l := List.range (bs.length + 1)) ?_ (by simp; omega) fun j hj => ⟨_, gN_d, ?_, fun _ => by simp [wipeE]⟩
    · have := wRng1_ok (δ := [.sh (numD q), .sh (.lst (dueD vs bs)), s, .sh (.int r), t, .un, u]) (A := A) (A' := A) (fa := aCons (eB (one lenOne) (aCons (eVar 1) aNil)) aNil) (j := ((dueD vs bs).length : Int)) (by simp) (by rw [due_len]; constructor <;> omega)
      rw [this, due_len]
      rfl
    · have hj2 : j < bs.length + 1 := List.mem_range.mp hj
      by_cases hjl : j < bs.length
      · simp [wipeE, due_at hjl]
        have := lt_iff j hjl
        by_cases hh : k ≤ j
        · have h5 : r < cnt vs bs[j] := by omega
          simp [hh, h5]
        · have h5 : ¬ r < cnt vs bs[j] := by omega
          simp [hh, h5]
      · have ej : j = bs.length := by omega
        subst ej
        simp [wipeE, due_end, hrn, hk]
  have el : (bs.take k).length = k := by rw [List.length_take]; omega
  rw [F_share_bounds, runF_d]
  by_cases hk0 : k = 0
  · subst hk0
    by_cases hb : bs.length = 0
    · have e5 : bs = [] := List.length_eq_zero_iff.mp hb
      subst e5
      have e6 := due_end (vs := vs) (bs := [])
      simp [g_share_bounds, e0, hl, er, e1, lowD, highD]
      simp at e6
      simp [e6, eq_all_all]
    · have h0 : 0 < bs.length := by omega
      have e6 := due_at (vs := vs) h0
      have e7 : L2.atI (dueD vs bs) 0 = some (.tup [numD bs[0], .int (cnt vs bs[0])]) := e6
      have e8 : highD bs = numD bs[0] := by
        unfold highD
        rw [List.head?_eq_getElem?, List.getElem?_eq_getElem h0]
      simp [g_share_bounds, e0, hl, er, e1, lowD, e7, eq_num_all, e8]
  · have hk1 : 0 < k := by omega
    have e9 : L2.atI (dueD vs bs) ((k : Int) - 1) = some (.tup [numD (bs[k - 1]'(by omega)), .int (cnt vs (bs[k - 1]'(by omega)))]) := by
      rw [show (k : Int) - 1 = ((k - 1 : Nat) : Int) by omega]
      exact due_at (by omega)
    have e10 : lowD (bs.take k) = numD (bs[k - 1]'(by omega)) := by
      unfold lowD
      rw [List.getLast?_eq_getElem?, el, List.getElem?_take_of_lt (by omega), List.getElem?_eq_getElem (by omega)]
    by_cases hb : k = bs.length
    · have e6 := due_end (vs := vs) (bs := bs)
      rw [← hb] at e6
      have e8 : highD (bs.drop k) = .non := by
        unfold highD
        rw [hb, List.drop_length]
        rfl
      simp [g_share_bounds, e0, hl, er, e1, hk1, e9, e10, e6, e8, eq_all_all]
    · have h0 : k < bs.length := by omega
      have e6 := due_at (vs := vs) h0
      have e8 : highD (bs.drop k) = numD bs[k] := by
        unfold highD
        rw [List.head?_drop, List.getElem?_eq_getElem h0]
      simp [g_share_bounds, e0, hl, er, e1, hk1, e9, e10, e6, e8, eq_num_all]
end K61

namespace K61
open PySem PySem.Spec Pv
def catW : Cat := fun c => if c = "Wrong" then some true else none
noncomputable def F__law_told : Fn := runF 3 (g__law_told F_counted catW)
@[simp] theorem sTry_d {cat : Cat} {i : Nat} {g h : Pv.Env → AS → SR} {δ : Pv.Env} {A : AS} : sTry cat i g h δ A = match g δ A with
  | .ex e δ1 A1 => match cat e.cls with
    | some false => .ex e δ1 A1
    | some true => if noXc δ1 = true then (match h (sset δ1 i (.xc e)) A1 with
      | .nx δ2 A2 => if noXc (sset δ2 i .un) = true then .nx (sset δ2 i .un) A2 else .un
      | .bk δ2 A2 => if noXc (sset δ2 i .un) = true then .bk (sset δ2 i .un) A2 else .un
      | .ct δ2 A2 => if noXc (sset δ2 i .un) = true then .ct (sset δ2 i .un) A2 else .un
      | .rt d A2 => .rt d A2
      | _ => .un) else .un
    | none => .un
  | r => r := by unfold sTry; cases g δ A <;> rfl
theorem told_ok {x y : D} {d : D} {A A' : AS} (h : F_counted [x, y] A = .ok d A') : F__law_told [x, y] A = .ok (.tup [.str "told", d]) A' := by
  rw [F__law_told, runF_d]
  simp [g__law_told, h]
theorem told_bad {x y : D} {d : D} {A A' : AS} (h : F_counted [x, y] A = .ex ⟨"Wrong", d⟩ A') : F__law_told [x, y] A = .ok (.tup [.str "wrong", d]) A' := by
  rw [F__law_told, runF_d]
  simp [g__law_told, h, catW, noXc, isXc]
/-! ### in a list of numbers -/
theorem num_lay (q : Rat) : (numD q).plain = true ∧ (numD q).py.canLay0 = true ∧ (numD q).py.depth ≤ 2 := by
  unfold numD
  by_cases h : q.den = 1 <;> simp [h, D.plain, D.plains, D.py, D.pys, PyData.canLay0, PyData.canLayAll0, PyData.depth, PyData.depthAll]
theorem nums_lay : ∀ l : List Rat, D.plains (l.map numD) = true ∧ PyData.canLayAll0 (D.pys (l.map numD)) = true ∧ PyData.depthAll (D.pys (l.map numD)) ≤ 2
  | [] => ⟨rfl, rfl, by simp [D.pys, PyData.depthAll]⟩
  | q :: l => by
    obtain ⟨h1, h2, h3⟩ := num_lay q
    obtain ⟨k1, k2, k3⟩ := nums_lay l
    refine ⟨by simp [D.plains, h1, k1], by simp [D.pys, PyData.canLayAll0, h2, k2], ?_⟩
    simp [D.pys, PyData.depthAll]
    omega
theorem eqv_num (p q : Rat) : PyData.eqv (numD p).py (numD q).py = decide (p = q) := by
  have ext : p = q ↔ p.num = q.num ∧ p.den = q.den := ⟨fun h => by rw [h]; exact ⟨rfl, rfl⟩, fun h => Rat.ext h.1 h.2⟩
  unfold numD
  by_cases h1 : p.den = 1 <;> by_cases h2 : q.den = 1
  · simp [h1, h2, D.py, PyData.eqv, ext, Bool.beq_eq_decide_eq]
  · simp [h1, h2, D.py, PyData.eqv, ext]
    intro _ z; exact h2 z.symm
  · simp [h1, h2, D.py, PyData.eqv, ext]
  · simp [h1, h2, D.py, D.pys, PyData.eqv, PyData.eqvAll, ext, Bool.beq_eq_decide_eq]
    congr 1
    exact decide_eq_decide.mpr (by omega)
theorem nin_num (q : Rat) (l : List Rat) (A : AS) : inD true (numD q) (.lst (l.map numD)) A = .ok (.bl (!decide (q ∈ l))) A := by
  have e : ((l.map numD).any fun z => PyData.eqv z.py (numD q).py) = decide (q ∈ l) := by
    induction l with
    | nil => simp
    | cons p l ih =>
      simp [eqv_num, ih]
      congr 1
      exact decide_eq_decide.mpr ⟨fun h => h.symm, fun h => h.symm⟩
  have hs : (shp (numD q) && shp (.lst (l.map numD))) = true := by
    obtain ⟨h1, h2, h3⟩ := num_lay q
    obtain ⟨k1, k2, k3⟩ := nums_lay l
    have d1 : (numD q).py.depth ≤ 64 := by omega
    have d2 : (D.lst (l.map numD)).py.depth ≤ 64 := by simp [D.py, PyData.depth]; omega
    simp [shp, SeqAt.shaped, h1, h2, d1, d2, D.plain, k1, D.py, PyData.canLay0, k2]
    exact decide_eq_true (by simpa [D.py] using d2)
  have key : ∀ (c : Bool) (r : R D), (if c = true then r else if (shp (numD q) && shp (.lst (l.map numD))) = true then r else .un) = r := by
    intro c r
    cases c
    · rw [if_neg Bool.false_ne_true, if_pos hs]
    · rw [if_pos rfl]
  have st : inD true (numD q) (.lst (l.map numD)) A = if (flatD (numD q) && (l.map numD).all flatD) = true then .ok (.bl (if true then !((l.map numD).any fun z => PyData.eqv z.py (numD q).py) else (l.map numD).any fun z => PyData.eqv z.py (numD q).py)) A
      else if (shp (numD q) && shp (.lst (l.map numD))) = true then .ok (.bl (if true then !((l.map numD).any fun z => PyData.eqv z.py (numD q).py) else (l.map numD).any fun z => PyData.eqv z.py (numD q).py)) A else .un := by
    unfold inD numD
    by_cases h : q.den = 1 <;> simp [h, asR, asL]
  rw [st, key, e]
  rfl
/-! ### each once -/
def ddp (l acc : List Rat) : List Rat := l.foldl (fun acc b => if b ∈ acc then acc else acc ++ [b]) acc
theorem ddp_asc : ∀ (l acc : List Rat), Srt l → Asc acc → (∀ a ∈ acc, ∀ b ∈ l, a ≤ b) → Asc (ddp l acc) ∧ (∀ x ∈ ddp l acc, x ∈ acc ∨ x ∈ l) ∧ (ddp l acc).length ≤ acc.length + l.length
  | [], acc, _, h, _ => ⟨h, fun x hx => .inl hx, by simp [ddp]⟩
  | b :: l, acc, hs, ha, hl => by
    have hr := (List.pairwise_cons.mp hs).2
    have hx := (List.pairwise_cons.mp hs).1
    unfold ddp
    rw [List.foldl_cons]
    by_cases hm : b ∈ acc
    · rw [if_pos hm]
      obtain ⟨k1, k2, k3⟩ := ddp_asc l acc hr ha fun a ha' c hc => hl a ha' c (List.mem_cons_of_mem _ hc)
      exact ⟨k1, fun x hx => (k2 x hx).imp id (List.mem_cons_of_mem _), by simp; unfold ddp at k3; omega⟩
    · rw [if_neg hm]
      obtain ⟨k1, k2, k3⟩ := ddp_asc l (acc ++ [b]) hr (List.pairwise_append.mpr ⟨ha, List.pairwise_singleton _ _, fun a ha' c hc => by
        have e : c = b := by simpa using hc
        subst e
        have h1 := hl a ha' c List.mem_cons_self
        have h2 : a ≠ c := fun z => hm (z ▸ ha')
        grind⟩) fun a ha' c hc => by
          rcases List.mem_append.mp ha' with h | h
          · exact hl a h c (List.mem_cons_of_mem _ hc)
          · have e : a = b := by simpa using h
            subst e
            exact hx c hc
      refine ⟨k1, fun x hx => ?_, ?_⟩
      · rcases k2 x hx with h | h
        · rcases List.mem_append.mp h with h | h
          · exact .inl h
          · exact .inr (by simp at h; simp [h])
        · exact .inr (List.mem_cons_of_mem _ h)
      · have := k3
        unfold ddp at this
        simp at this ⊢
        omega
end K61

namespace K61
open PySem PySem.Spec Pv
/-- some numbers, drawn -/
theorem numbers_ok {fa : Pv.Env → M (List D)} {s0 : Sl} {tl : List Sl} {c c1 : Cell} {n : Nat} (h : DrC c1) (hn : n ≤ 100) (hs : fa (s0 :: .sh (.ref 0) :: tl) [c] = .ok [.int n] [c1]) :
    ∃ (qs : List Rat) (c2 : Cell), eLc [4] (wRng1 fa) (gN 4) cYes (eCall 1 F__law_number (aCons (eVar 1) aNil)) (s0 :: .sh (.ref 0) :: tl) [c] = .ok (qs.map numD) [c2] ∧ qs.length = n ∧ (∀ q ∈ qs, Drawn q) ∧ DrC c2 := by
  have e1 : wRng1 fa (s0 :: .sh (.ref 0) :: tl) [c] = .ok (rngL 0 n) [c1] := by
    have := wRng1_ok hs (show -(2 ^ 62) ≤ (n : Int) ∧ (n : Int) < 2 ^ 62 by constructor <;> omega)
    rwa [Int.toNat_natCast] at this
  obtain ⟨acc, A2, e, qs, c2, rfl, hl, hq, rfl, hc⟩ := eLc_step (tgt := gN 4) (vs := [4]) (el := eCall 1 F__law_number (aCons (eVar 1) aNil)) (δ := s0 :: .sh (.ref 0) :: tl) (A := [c]) (I := fun k acc A => ∃ (qs : List Rat) (c2 : Cell), acc = qs.map numD ∧ qs.length = k ∧ (∀ q ∈ qs, Drawn q) ∧ A = [c2] ∧ DrC c2) e1 (by rw [rngL_length]; omega) ⟨[], c1, rfl, rfl, by simp, rfl, h⟩
    fun k acc A d hd hI => by
      obtain ⟨qs, c2, rfl, hl, hq, rfl, hc⟩ := hI
      obtain ⟨q, c3, en, hdr, hc3⟩ := number_ok (B := []) hc
      refine ⟨_, numD q, [c3], gN_d, ?_, qs ++ [q], c3, by simp, by simp [hl], fun x hx => ?_, rfl, hc3⟩
      · simp [wipeE, en]
      · rcases List.mem_append.mp hx with hx | hx
        · exact hq x hx
        · rw [List.mem_singleton.mp hx]; exact hdr
  rw [rngL_length] at hl
  exact ⟨qs, c2, e, hl, hq, hc⟩
noncomputable abbrev B1 := b_law_1 F__law_draws F__law_draw F__law_number F__law_order (F__law_copy 8) F__law_less (F__law_same 8) F__law_told F__law_exact F__law_two F__law_mul F_rank_at F_share_bounds
noncomputable abbrev B2 := b_law_2 F__law_draws F__law_draw F__law_number F__law_order (F__law_copy 8) F__law_less (F__law_same 8) F__law_told F__law_exact F__law_two F__law_mul F_rank_at F_share_bounds
noncomputable abbrev B3 := b_law_3 F__law_draws F__law_draw F__law_number F__law_order (F__law_copy 8) F__law_less (F__law_same 8) F__law_told F__law_exact F__law_two F__law_mul F_rank_at F_share_bounds
/-- the loop that drops what comes again -/
theorem dedup_ok {s0 s1 s2 s3 s4 : Sl} {tl : List Sl} {A : AS} (hA : True) : ∀ (l acc : List Rat) (x : Sl), acc.length + l.length ≤ 1000 →
    ∃ x', forL (gN 6) B2 (l.map numD) (s0 :: s1 :: s2 :: s3 :: s4 :: .ow (acc.map numD) :: x :: tl) A = .nx (s0 :: s1 :: s2 :: s3 :: s4 :: .ow ((ddp l acc).map numD) :: x' :: tl) A
  | [], acc, x, _ => ⟨x, rfl⟩
  | b :: l, acc, x, h => by
    simp only [List.length_cons] at h
    have step : B2 (s0 :: s1 :: s2 :: s3 :: s4 :: .ow (acc.map numD) :: .sh (numD b) :: tl) A = .nx (s0 :: s1 :: s2 :: s3 :: s4 :: .ow ((if b ∈ acc then acc else acc ++ [b]).map numD) :: .sh (numD b) :: tl) A := by
      by_cases hm : b ∈ acc
      · simp [b_law_2, nin_num, hm]
      · have hz : acc.length ≤ 16777215 := by omega
        simp [b_law_2, nin_num, hm, sApp, hz]
    obtain ⟨x', e⟩ := dedup_ok (s0 := s0) (s1 := s1) (s2 := s2) (s3 := s3) (s4 := s4) (tl := tl) (A := A) hA l (if b ∈ acc then acc else acc ++ [b]) (.sh (numD b)) (by
      split
      · omega
      · rw [List.length_append, List.length_singleton]; omega)
    refine ⟨x', ?_⟩
    rw [List.map_cons]
    unfold forL
    rw [gN_d]
    dsimp only
    rw [show sset (s0 :: s1 :: s2 :: s3 :: s4 :: .ow (acc.map numD) :: x :: tl) 6 (.sh (numD b)) = s0 :: s1 :: s2 :: s3 :: s4 :: .ow (acc.map numD) :: .sh (numD b) :: tl from rfl, step]
    exact e
theorem okD_num {n : Nat} (q : Rat) : okD (n + 2) (numD q) = true := by
  unfold numD
  by_cases h : q.den = 1 <;> simp [h, okD]
theorem okD_nums {n : Nat} (l : List Rat) (h : l.length ≤ 1000) : okD (n + 3) (.lst (l.map numD)) = true := by
  simp [okD]
  refine ⟨by omega, fun q _ => ?_⟩
  exact okD_num q
theorem okD_due {n : Nat} (vs bs : List Rat) (h : bs.length ≤ 1000) : okD (n + 4) (.lst (dueD vs bs)) = true := by
  have e : ∀ d ∈ dueD vs bs, okD (n + 3) d = true := by
    intro d hd
    unfold dueD at hd
    rcases List.mem_append.mp hd with hd | hd
    · obtain ⟨b, _, rfl⟩ := List.mem_map.mp hd
      have := okD_num (n := n) b
      simp [okD] at this ⊢
      exact this
    · rw [List.mem_singleton.mp hd]
      simp [okD]
  show (decide _ && _) = true
  rw [Bool.and_eq_true]
  exact ⟨decide_eq_true (by rw [due_len]; omega), List.all_eq_true.mpr e⟩
end K61

namespace K61
open PySem PySem.Spec Pv
theorem mk_nonneg (v b : Nat) : 0 ≤ mkRat v b := by
  have := Rat.divInt_nonneg (a := v) (b := b) (by omega) (by omega)
  rwa [Rat.divInt_ofNat] at this
theorem mk_le_one (v b : Nat) (h : v ≤ b) (hb : 0 < b) : mkRat v b ≤ 1 := by
  have e : mkRat v b + mkRat ((b - v : Nat) : Int) b = 1 := by
    rw [Rat.mkRat_add_mkRat _ _ (by omega) (by omega)]
    have e2 : (v : Int) * b + ((b - v : Nat) : Int) * b = ((b * b : Nat) : Int) := by
      rw [← Int.add_mul, Int.natCast_mul]
      congr 1
      omega
    rw [e2, ← Rat.divInt_ofNat, Rat.divInt_self']
    have := Nat.mul_pos hb hb
    omega
  have := mk_nonneg (b - v) b
  grind
theorem floor_within (q : Rat) (n : Int) (h0 : 0 ≤ q) (h1 : q ≤ 1) (hn : 0 ≤ n) : 0 ≤ (q * (n : Rat)).floor ∧ (q * (n : Rat)).floor ≤ n := by
  have hn2 : (0 : Rat) ≤ (n : Rat) := by exact_mod_cast hn
  have a := Rat.mul_nonneg h0 hn2
  have b : q * (n : Rat) ≤ 1 * (n : Rat) := Rat.mul_le_mul_of_nonneg_right h1 hn2
  rw [Rat.one_mul] at b
  refine ⟨Rat.le_floor_iff.mpr (by exact_mod_cast a), ?_⟩
  have := Rat.floor_monotone b
  rwa [Rat.floor_intCast] at this
theorem numD_ne (q : Rat) : numD q ≠ .non := by
  unfold numD
  by_cases h : q.den = 1 <;> simp [h]
theorem okD_lh {n : Nat} (l : List Rat) : okD (n + 2) (lowD l) = true ∧ okD (n + 2) (highD l) = true := by
  constructor
  · unfold lowD
    split
    · exact okD_num _
    · rfl
  · unfold highD
    split
    · exact okD_num _
    · rfl
set_option maxHeartbeats 8000000 in
theorem share_turn {vs bs : List Rat} {s0 s2 s4 s6 s7 s9 s11 s12 s13 s14 s15 s16 s17 s18 s19 : Sl} {c : Cell} (hc : DrC c) (hv : ∀ q ∈ vs, Bnd q) (hb : ∀ q ∈ bs, Bnd q) (ha : Asc bs) (h1 : vs.length ≤ 100) (h2 : bs.length ≤ 100) :
    ∃ (t6 t9 t11 t12 t13 t14 t15 t16 t17 : Sl) (c' : Cell), DrC c' ∧
      (B3 [s0, .sh (.ref 0), s2, .sh (.lst (vs.map numD)), s4, .sh (.lst (bs.map numD)), s6, s7, .sh (.lst (dueD vs bs)), s9, .sh (.lst ((ordQ vs).map numD)), s11, s12, s13, s14, s15, s16, s17, s18, s19] [c] = .nx [s0, .sh (.ref 0), s2, .sh (.lst (vs.map numD)), s4, .sh (.lst (bs.map numD)), t6, s7, .sh (.lst (dueD vs bs)), t9, .sh (.lst ((ordQ vs).map numD)), t11, t12, t13, t14, t15, t16, t17, s18, s19] [c'] ∨
      B3 [s0, .sh (.ref 0), s2, .sh (.lst (vs.map numD)), s4, .sh (.lst (bs.map numD)), s6, s7, .sh (.lst (dueD vs bs)), s9, .sh (.lst ((ordQ vs).map numD)), s11, s12, s13, s14, s15, s16, s17, s18, s19] [c] = .ct [s0, .sh (.ref 0), s2, .sh (.lst (vs.map numD)), s4, .sh (.lst (bs.map numD)), t6, s7, .sh (.lst (dueD vs bs)), t9, .sh (.lst ((ordQ vs).map numD)), t11, t12, t13, t14, t15, t16, t17, s18, s19] [c']) := by
  obtain ⟨v1, c1, e1, a1, b1, hc1⟩ := draw_ok (B := []) hc (L := 9) (by decide) (by decide)
  obtain ⟨b, hbn⟩ := Int.eq_ofNat_of_zero_le (show (0 : Int) ≤ 1 + v1 by omega)
  have hbp : 0 < b ∧ b ≤ 9 := by omega
  obtain ⟨v2, c2, e2, a2, b2, hc2⟩ := draw_ok (B := []) hc1 (L := (b : Int) + 1) (by omega) (Int.lt_of_le_of_lt (show (b : Int) + 1 ≤ 16 by omega) (by decide))
  obtain ⟨v, rfl⟩ := Int.eq_ofNat_of_zero_le a2
  have e3 := exact_nat v b [c2] (by omega) (Nat.lt_of_le_of_lt hbp.2 (Nat.lt_of_lt_of_le (show 9 < 2 ^ 4 by decide) (Nat.pow_le_pow_right (by decide) (by decide))))
  have q0 := mk_nonneg v b
  have q1 := mk_le_one v b (by omega) hbp.1
  have qb : Bnd (mkRat v b) := Drawn.bnd ⟨v, b, rfl, by omega, hbp.1, by omega⟩
  generalize mkRat v b = q at e3 q0 q1 qb
  -- the greatest rank
  have hm : ∃ m : Int, 0 ≤ m ∧ m ≤ 100 ∧ (if (vs.length : Int) - 1 > 0 then (vs.length : Int) - 1 else 0) = m ∧ (if (vs.length : Int) > 1 then (vs.length : Int) else 1) - 1 = m ∧ (vs ≠ [] → (vs.length : Int) - 1 = m) := by
    refine ⟨if (vs.length : Int) - 1 > 0 then (vs.length : Int) - 1 else 0, ?_, ?_, rfl, ?_, fun hne => ?_⟩
    · split <;> omega
    · split <;> omega
    · split <;> split <;> omega
    · have : 0 < vs.length := List.length_pos_iff.mpr hne
      split <;> omega
  obtain ⟨m, m0, m1, em1, em2, em3⟩ := hm
  have bm : Bnd (m : Rat) := bnd_int (Nat.lt_of_le_of_lt (show m.natAbs ≤ 100 by omega) (lt2000 (by decide)))
  have e4 := lmul_ok q (m : Rat) [c2] qb bm
  rw [numD_int] at e4
  have e5 := two_ok (q * (m : Rat)) [c2]
  have hM : ∃ M : Int, (if (vs.length : Int) > 1 then (vs.length : Int) else 1) = M ∧ M - 1 = m := ⟨_, rfl, em2⟩
  obtain ⟨M, eM, eM1⟩ := hM
  have e6 := rank_ok q M [c2] qb (by rw [eM1]; exact Nat.lt_of_le_of_lt (show m.natAbs ≤ 100 by omega) (lt2000 (by decide)))
  rw [eM1] at e6
  obtain ⟨f0, f1⟩ := floor_within q m q0 q1 m0
  have e7 := divOk_of (q * (m : Rat)).den_pos (den_small qb bm)
  obtain ⟨r, hr⟩ := Int.eq_ofNat_of_zero_le f0
  have e8 : (q * (m : Rat)).num / ((q * (m : Rat)).den : Int) = r := by rw [← Rat.floor_def, hr]
  rw [hr] at e6 f1
  have e9 := same_ok 8 (.int r) [c2] rfl
  have e10 := copy_ok 8 (.lst (dueD vs bs)) [c2] (okD_due (n := 4) vs bs (by omega))
  simp only [gt_iff_lt] at em1 eM
  generalize hp : q * (m : Rat) = p at e4 e5 e6 e7 e8 hr f0 f1
  by_cases hne : vs = []
  · subst hne
    have e11 := share_none q bs [c2]
    refine ⟨s6, s9, .sh (.int b), .sh (numD q), .sh (.int p.num), .sh (.int p.den), .sh .non, s16, s17, c2, hc2, .inr ?_⟩
    have z1 : m = 0 := by simpa using em1.symm
    have z2 : M = 1 := by simpa using eM.symm
    subst z1 z2
    simp [b_law_3, e1, hbn, e2, e3, em1, e4, e5, tupQ, eM, e6, e7, e8, e9, e10, e11]
  · have hm2 := em3 hne
    have hl0 : 0 < vs.length := List.length_pos_iff.mpr hne
    have hro : r < (ordQ vs).length := by rw [(ordQ_perm vs).length_eq]; omega
    have e11 := share_ok q vs bs [c2] qb hne ha (by omega) (by omega) r (by rw [show (((vs.length : Int) - 1 : Int) : Rat) = (m : Rat) from by rw [hm2], hp]; exact hr) hro
    have e12 : L2.atI ((ordQ vs).map numD) (r : Int) = some (numD (ordQ vs)[r]) := L2.atI_nat (by rw [List.getElem?_map, List.getElem?_eq_getElem hro]; rfl)
    have bv : Bnd (ordQ vs)[r] := hv _ ((ordQ_perm vs).mem_iff.mp (List.getElem_mem hro))
    generalize (ordQ vs)[r] = value at e11 e12 bv
    have e13 : ∀ (u15 u16 u17 : Sl), eLc [6] (wSeq (eVar 5)) (gN 6) (tst (eCall 2 F__law_less (aCons (eVar 6) (aCons (eVar 9) aNil)))) (eVar 6) [s0, .sh (.ref 0), s2, .sh (.lst (vs.map numD)), s4, .sh (.lst (bs.map numD)), s6, s7, .sh (.lst (dueD vs bs)), .sh (numD value), .sh (.lst ((ordQ vs).map numD)), .sh (.int b), .sh (numD q), .sh (.int p.num), .sh (.int p.den), u15, u16, u17, s18, s19] [c2] = .ok ((bs.filter fun x => decide (x < value)).map numD) [c2] := by
      intro u15 u16 u17
      exact eLc_of (F := numD) (G := numD) (wSeq_lst (by simp)) (by omega) fun x hx => ⟨_, gN_d, by simp [wipeE, lless_ok _ _ _ (hb x hx) bv], fun _ => by simp [wipeE]⟩
    have e14 : ∀ (u15 u16 u17 : Sl), eLc [6] (wSeq (eVar 5)) (gN 6) (cNot (tst (eCall 2 F__law_less (aCons (eVar 6) (aCons (eVar 9) aNil))))) (eVar 6) [s0, .sh (.ref 0), s2, .sh (.lst (vs.map numD)), s4, .sh (.lst (bs.map numD)), s6, s7, .sh (.lst (dueD vs bs)), .sh (numD value), .sh (.lst ((ordQ vs).map numD)), .sh (.int b), .sh (numD q), .sh (.int p.num), .sh (.int p.den), u15, u16, u17, s18, s19] [c2] = .ok ((bs.filter fun x => !decide (x < value)).map numD) [c2] := by
      intro u15 u16 u17
      exact eLc_of (F := numD) (G := numD) (wSeq_lst (by simp)) (by omega) fun x hx => ⟨_, gN_d, by simp [wipeE, lless_ok _ _ _ (hb x hx) bv], fun _ => by simp [wipeE]⟩
    have e15 := same_ok 8 (.tup [lowD (bs.filter fun x => decide (x < value)), highD (bs.filter fun x => !decide (x < value))]) [c2] (by
      have h1 := okD_lh (n := 5) (bs.filter fun x => decide (x < value))
      have h2 := okD_lh (n := 5) (bs.filter fun x => !decide (x < value))
      show (decide _ && _) = true
      rw [Bool.and_eq_true]
      exact ⟨decide_eq_true (by simp), by simp [h1.1, h2.2]⟩)
    -- what the law takes out of its lists
    have lo : ∀ (l : List Rat), (l.length = 0 ∧ lowD l = .non) ∨ (0 < l.length ∧ L2.atI (l.map numD) (-1) = some (lowD l)) := by
      intro l
      by_cases hl : l = []
      · subst hl; exact .inl ⟨rfl, rfl⟩
      · obtain ⟨y, z, rfl⟩ : ∃ y z, l = y ++ [z] := ⟨l.dropLast, l.getLast hl, (List.dropLast_concat_getLast hl).symm⟩
        have := L2.atI_last (y.map numD) (numD z)
        exact .inr ⟨by simp, by simp [lowD, this]⟩
    have hi : ∀ (l : List Rat), (l.length = 0 ∧ highD l = .non) ∨ (0 < l.length ∧ L2.atI (l.map numD) 0 = some (highD l)) := by
      intro l
      cases l with
      | nil => exact .inl ⟨rfl, rfl⟩
      | cons y l => exact .inr ⟨by simp, by simp [highD]⟩
    have lo' := lo (bs.filter fun x => decide (x < value))
    have hi' := hi (bs.filter fun x => !decide (x < value))
    generalize hlow : bs.filter (fun x => decide (x < value)) = low at *
    generalize hhigh : bs.filter (fun x => !decide (x < value)) = high at *
    refine ⟨s6, .sh (numD value), .sh (.int b), .sh (numD q), .sh (.int p.num), .sh (.int p.den), .sh (.tup [lowD low, highD high]), .sh (.lst (low.map numD)), .sh (.lst (high.map numD)), c2, hc2, .inl ?_⟩
    have hl1 : ¬ vs.length = 0 := by omega
    have mx1 : ∀ A, maxD [.int 0, .int ((vs.length : Int) - 1)] A = .ok (.int m) A := fun A => by rw [max_ii]; simp only [gt_iff_lt, em1]
    have mx2 : ∀ A, maxD [.int 1, .int (vs.length : Int)] A = .ok (.int M) A := fun A => by rw [max_ii]; simp only [gt_iff_lt, eM]
    rcases lo' with ⟨w1, w2⟩ | ⟨w1, w2⟩ <;> rcases hi' with ⟨w3, w4⟩ | ⟨w3, w4⟩
    · rw [w2, w4] at e15
      simp [-max_ii, mx1, mx2, hl1, b_law_3, e1, hbn, e2, e3, e4, e5, tupQ, e6, e7, e8, e9, e10, e11, hne, e12, e13, e14, w1, w2, w3, w4, e15]
    · rw [w2] at e15
      simp [-max_ii, mx1, mx2, hl1, b_law_3, e1, hbn, e2, e3, e4, e5, tupQ, e6, e7, e8, e9, e10, e11, hne, e12, e13, e14, w1, w2, w3, w4, e15]
    · rw [w4] at e15
      simp [-max_ii, mx1, mx2, hl1, b_law_3, e1, hbn, e2, e3, e4, e5, tupQ, e6, e7, e8, e9, e10, e11, hne, e12, e13, e14, w1, w2, w3, w4, e15]
    · simp [-max_ii, mx1, mx2, hl1, b_law_3, e1, hbn, e2, e3, e4, e5, tupQ, e6, e7, e8, e9, e10, e11, hne, e12, e13, e14, w1, w2, w3, w4, e15]
theorem ok_l2 {n : Nat} {a b : D} (h1 : okD n a = true) (h2 : okD n b = true) : okD (n + 1) (.lst [a, b]) = true := by
  show (decide _ && _) = true
  simp [h1, h2]
theorem ok_t2 {n : Nat} {a b : D} (h1 : okD n a = true) (h2 : okD n b = true) : okD (n + 1) (.tup [a, b]) = true := by
  show (decide _ && _) = true
  simp [h1, h2]
set_option maxHeartbeats 16000000 in
theorem law_turn {s0 s2 s3 s4 s5 s6 s7 s8 s9 s10 s11 s12 s13 s14 s15 s16 s17 s18 s19 : Sl} {c : Cell} (hc : DrC c) :
    ∃ (t3 t4 t5 t6 t7 t8 t9 t10 t11 t12 t13 t14 t15 t16 t17 t18 t19 : Sl) (c' : Cell), DrC c' ∧
      B1 [s0, .sh (.ref 0), s2, s3, s4, s5, s6, s7, s8, s9, s10, s11, s12, s13, s14, s15, s16, s17, s18, s19] [c] = .nx [s0, .sh (.ref 0), s2, t3, t4, t5, t6, t7, t8, t9, t10, t11, t12, t13, t14, t15, t16, t17, t18, t19] [c'] := by
  -- values
  obtain ⟨u, c1, e1, u0, u1, hc1⟩ := draw_ok (B := []) hc (L := 4) (by decide) (by decide)
  have key : ∃ n : Nat, L2.atI [D.int 0, .int 1, .int 2, .int 30] u = some (.int (n : Int)) ∧ n ≤ 30 := by
    obtain ⟨k, rfl⟩ := Int.eq_ofNat_of_zero_le u0
    have hk : k = 0 ∨ k = 1 ∨ k = 2 ∨ k = 3 := by omega
    rcases hk with rfl | rfl | rfl | rfl
    · exact ⟨0, rfl, by decide⟩
    · exact ⟨1, rfl, by decide⟩
    · exact ⟨2, rfl, by decide⟩
    · exact ⟨30, rfl, by decide⟩
  obtain ⟨n, en, hn⟩ := key
  obtain ⟨vs, c2, e2, l2, d2, hc2⟩ := numbers_ok (s0 := s0) (tl := [s2, s3, s4, s5, s6, s7, s8, s9, s10, s11, s12, s13, s14, s15, s16, s17, s18, s19]) (c := c) (n := n) (fa := (aCons (eBin ixD (fLst (eLst (aCons (eC (.int 0)) (aCons (eC (.int 1)) (aCons (eC (.int 2)) (aCons (eC (.int 30)) aNil)))))) (eCall 2 F__law_draw (aCons (eVar 1) (aCons (eC (.int 4)) aNil)))) aNil)) hc1 (by omega) (by simp [e1, en])
  have bvs : ∀ q ∈ vs, Bnd q := fun q hq => (d2 q hq).bnd
  -- bounds
  obtain ⟨w, c3, e3, w0, w1, hc3⟩ := draw_ok (B := []) hc2 (L := 7) (by decide) (by decide)
  obtain ⟨k, rfl⟩ := Int.eq_ofNat_of_zero_le w0
  obtain ⟨ws, c4, e4, l4, d4, hc4⟩ := numbers_ok (s0 := s0) (tl := [s2, .sh (.lst (vs.map numD)), s4, .ow [], s6, s7, s8, s9, s10, s11, s12, s13, s14, s15, s16, s17, s18, s19]) (c := c2) (n := k) (fa := (aCons (eCall 2 F__law_draw (aCons (eVar 1) (aCons (eC (.int 7)) aNil))) aNil)) hc3 (by omega) (by simp [e3])
  have bws : ∀ q ∈ ws, Bnd q := fun q hq => (d4 q hq).bnd
  have e5 := order_ok ws [c4] bws (by omega)
  have lo : (ordQ ws).length = k := by rw [(ordQ_perm ws).length_eq, l4]
  obtain ⟨x6, e6⟩ := dedup_ok (s0 := s0) (s1 := .sh (.ref 0)) (s2 := s2) (s3 := .sh (.lst (vs.map numD))) (s4 := s4) (tl := [s7, s8, s9, s10, s11, s12, s13, s14, s15, s16, s17, s18, s19]) (A := [c4]) trivial (ordQ ws) [] s6 (by simp; omega)
  obtain ⟨asc, mem, len⟩ := ddp_asc (ordQ ws) [] (ordQ_srt ws) List.Pairwise.nil (by simp)
  have e7 : wSeq (eCall 1 F__law_order (aCons (fLst (eLc [4] (wRng1 (aCons (eCall 2 F__law_draw (aCons (eVar 1) (aCons (eC (.int 7)) aNil))) aNil)) (gN 4) cYes (eCall 1 F__law_number (aCons (eVar 1) aNil)))) aNil)) (s0 :: .sh (.ref 0) :: [s2, .sh (.lst (vs.map numD)), s4, .ow [], s6, s7, s8, s9, s10, s11, s12, s13, s14, s15, s16, s17, s18, s19]) [c2] = .ok ((ordQ ws).map numD) [c4] := wSeq_lst (by simp [e4, e5])
  have e8 : sFor (wSeq (eCall 1 F__law_order (aCons (fLst (eLc [4] (wRng1 (aCons (eCall 2 F__law_draw (aCons (eVar 1) (aCons (eC (.int 7)) aNil))) aNil)) (gN 4) cYes (eCall 1 F__law_number (aCons (eVar 1) aNil)))) aNil))) (gN 6) B2 [s0, .sh (.ref 0), s2, .sh (.lst (vs.map numD)), s4, .ow [], s6, s7, s8, s9, s10, s11, s12, s13, s14, s15, s16, s17, s18, s19] [c2] = .nx [s0, .sh (.ref 0), s2, .sh (.lst (vs.map numD)), s4, .ow ((ddp (ordQ ws) []).map numD), x6, s7, s8, s9, s10, s11, s12, s13, s14, s15, s16, s17, s18, s19] [c4] := by
    unfold sFor
    rw [e7]
    exact e6
  generalize ddp (ordQ ws) [] = bs at e8 asc mem len
  have bbs : ∀ q ∈ bs, Bnd q := fun q hq => bws q ((ordQ_perm ws).mem_iff.mp ((mem q hq).elim (fun h => absurd h (by simp)) id))
  have lbs : bs.length ≤ 10 := by simp at len; omega
  -- counted
  have okv : okD 6 (.lst (vs.map numD)) = true := okD_nums (n := 3) vs (by omega)
  have okb : okD 6 (.lst (bs.map numD)) = true := okD_nums (n := 3) bs (by omega)
  have okd : okD 6 (.lst (dueD vs bs)) = true := okD_due (n := 2) vs bs (by omega)
  have okv7 : okD 7 (.lst (vs.map numD)) = true := okD_nums (n := 4) vs (by omega)
  have okb7 : okD 7 (.lst (bs.map numD)) = true := okD_nums (n := 4) bs (by omega)
  have e9 := copy_ok 8 (.lst [.lst (vs.map numD), .lst (bs.map numD)]) [c4] (ok_l2 (n := 7) okv7 okb7)
  have e10 : ∀ (b : Rat), b ∈ bs → ∀ (a4 a6 a7 a8 : Sl), eLc [9] (wSeq (eVar 3)) (gN 9) (cNot (tst (eCall 2 F__law_less (aCons (eVar 6) (aCons (eVar 9) aNil))))) (eVar 9) [s0, .sh (.ref 0), s2, .sh (.lst (vs.map numD)), a4, .sh (.lst (bs.map numD)), .sh (numD b), a7, a8, s9, s10, s11, s12, s13, s14, s15, s16, s17, s18, s19] [c4] = .ok ((vs.filter fun v => !decide (b < v)).map numD) [c4] := by
    intro b hbm a4 a6 a7 a8
    exact eLc_of (F := numD) (G := numD) (wSeq_lst (by simp)) (by omega) fun q hq => ⟨_, gN_d, by simp [wipeE, lless_ok _ _ _ (bbs b hbm) (bvs q hq)], fun _ => by simp [wipeE]⟩
  have e11 : eLc [6] (wSeq (eVar 5)) (gN 6) cYes (eTup (aCons (eVar 6) (aCons (eB (one lenOne) (aCons (fLst (eLc [9] (wSeq (eVar 3)) (gN 9) (cNot (tst (eCall 2 F__law_less (aCons (eVar 6) (aCons (eVar 9) aNil))))) (eVar 9))) aNil)) aNil))) [s0, .sh (.ref 0), s2, .sh (.lst (vs.map numD)), s4, .sh (.lst (bs.map numD)), x6, .sh (.lst [.lst (vs.map numD), .lst (bs.map numD)]), s8, s9, s10, s11, s12, s13, s14, s15, s16, s17, s18, s19] [c4] = .ok (bs.map fun b => .tup [numD b, .int (cnt vs b)]) [c4] := by
    refine eLc_mapOf (F := numD) (wSeq_lst (by simp)) (by omega) fun b hbm => ⟨_, gN_d, ?_⟩
    have := e10 b hbm s4 s6 (.sh (.lst [.lst (vs.map numD), .lst (bs.map numD)])) s8
    simp [wipeE, this, cnt]
  have e12 := told_ok (counted_ok vs bs [c4] bvs bbs asc (by omega) (by omega))
  have e13 := same_ok 8 (.lst [.tup [.str "told", .lst (dueD vs bs)], .lst [.lst (vs.map numD), .lst (bs.map numD)]]) [c4] (ok_l2 (n := 7) (ok_t2 (n := 6) rfl okd) (ok_l2 (n := 6) okv okb))
  have e14 := order_ok vs [c4] bvs (by omega)
  -- shares
  have e15 : wRng1 (aCons (eC (.int 4)) aNil) [s0, .sh (.ref 0), s2, .sh (.lst (vs.map numD)), s4, .sh (.lst (bs.map numD)), x6, .sh (.lst [.lst (vs.map numD), .lst (bs.map numD)]), .sh (.lst (dueD vs bs)), s9, .sh (.lst ((ordQ vs).map numD)), s11, s12, s13, s14, s15, s16, s17, s18, s19] [c4] = .ok (rngL 0 4) [c4] := wRng1_ok (j := 4) (by simp) (by decide)
  obtain ⟨δ', A2, e16, t4, t6, t9, t11, t12, t13, t14, t15, t16, t17, c5, rfl, hc5, rfl⟩ := sFor_inv (tgt := gN 4) (body := B3) (I := fun _ δ A => ∃ (t4 t6 t9 t11 t12 t13 t14 t15 t16 t17 : Sl) (c' : Cell), A = [c'] ∧ DrC c' ∧ δ = [s0, .sh (.ref 0), s2, .sh (.lst (vs.map numD)), t4, .sh (.lst (bs.map numD)), t6, .sh (.lst [.lst (vs.map numD), .lst (bs.map numD)]), .sh (.lst (dueD vs bs)), t9, .sh (.lst ((ordQ vs).map numD)), t11, t12, t13, t14, t15, t16, t17, s18, s19])
    e15 ⟨_, _, _, _, _, _, _, _, _, _, c4, rfl, hc4, rfl⟩ fun k δ A d hd hI => by
      obtain ⟨t4, t6, t9, t11, t12, t13, t14, t15, t16, t17, c', rfl, hc', rfl⟩ := hI
      obtain ⟨u6, u9, u11, u12, u13, u14, u15, u16, u17, c'', hc'', h⟩ := share_turn (vs := vs) (bs := bs) (s0 := s0) (s2 := s2) (s4 := .sh d) (s6 := t6) (s7 := .sh (.lst [.lst (vs.map numD), .lst (bs.map numD)])) (s9 := t9) (s11 := t11) (s12 := t12) (s13 := t13) (s14 := t14) (s15 := t15) (s16 := t16) (s17 := t17) (s18 := s18) (s19 := s19) hc' bvs bbs asc (by omega) (by omega)
      exact ⟨_, _, [c''], gN_d, h, _, _, _, _, _, _, _, _, _, _, c'', rfl, hc'', rfl⟩
  -- a wrong bound
  obtain ⟨at_, c6, e17, a0, a1, hc6⟩ := draw_ok (B := []) hc5 (L := (bs.length : Int) + 1) (by omega) (Int.lt_of_le_of_lt (show (bs.length : Int) + 1 ≤ 16 by omega) (by decide))
  obtain ⟨a, rfl⟩ := Int.eq_ofNat_of_zero_le a0
  have hal : a ≤ bs.length := by omega
  obtain ⟨w, c7, e18, w0, w1, hc7⟩ := draw_ok (B := []) hc6 (L := 5) (by decide) (by decide)
  have hodd : ∃ x : D, (if 0 < (a : Int) then L2.atI (bs.map numD) ((a : Int) - 1) else some (.tup [.int 1, .int 1])) = some x ∧
      ∃ b, F_is_number [x] [c7] = .ok (.bl b) [c7] ∧ (b = true → ∃ p, (bs.take a).getLast? = some p ∧ F_less [numD p, x] [c7] = .ok (.bl false) [c7]) := by
    by_cases h0 : 0 < a
    · have ha : a - 1 < bs.length := by omega
      refine ⟨numD bs[a - 1], ?_, true, is_number_q _ _, fun _ => ⟨bs[a - 1], ?_, ?_⟩⟩
      · rw [if_pos (by omega), show (a : Int) - 1 = ((a - 1 : Nat) : Int) by omega]
        exact L2.atI_nat (by rw [List.getElem?_map, List.getElem?_eq_getElem ha]; rfl)
      · rw [List.getLast?_eq_getElem?, List.length_take, Nat.min_eq_left hal, List.getElem?_take_of_lt (by omega), List.getElem?_eq_getElem ha]
      · rw [less_ok _ _ _ (bbs _ (List.getElem_mem ha)) (bbs _ (List.getElem_mem ha)), decide_eq_false (by grind)]
    · refine ⟨.tup [.int 1, .int 1], by rw [if_neg (by omega)], false, is_number_bad _ (by simp), fun h => by cases h⟩
  obtain ⟨x, ex, hx⟩ := hodd
  have hodd2 : ∃ y : D, L2.atI [.non, .tup [.int 2, .int 4], .str "5", .bl true, x] w = some y ∧ ∃ b, F_is_number [y] [c7] = .ok (.bl b) [c7] ∧ (b = true → ∃ p, (bs.take a).getLast? = some p ∧ F_less [numD p, y] [c7] = .ok (.bl false) [c7]) := by
    obtain ⟨k, rfl⟩ := Int.eq_ofNat_of_zero_le w0
    have hk : k = 0 ∨ k = 1 ∨ k = 2 ∨ k = 3 ∨ k = 4 := by omega
    rcases hk with rfl | rfl | rfl | rfl | rfl
    · exact ⟨_, rfl, false, is_number_bad _ (by simp), fun h => by cases h⟩
    · exact ⟨_, rfl, false, is_number_bad _ (by simp), fun h => by cases h⟩
    · exact ⟨_, rfl, false, is_number_bad _ (by simp), fun h => by cases h⟩
    · exact ⟨_, rfl, false, is_number_bad _ (by simp), fun h => by cases h⟩
    · exact ⟨x, rfl, hx⟩
  obtain ⟨y, ey, b, hy1, hy2⟩ := hodd2
  have lt : (bs.take a).length = a := by rw [List.length_take]; omega
  have e19 := told_bad (counted_bad (.lst (vs.map numD)) (bs.take a) y ((bs.drop a).map numD) [c7] (fun q hq => bbs q (List.mem_of_mem_take hq)) (asc.sublist (List.take_sublist _ _)) (by rw [lt, List.length_map, List.length_drop]; omega) hy1 hy2)
  rw [lt] at e19
  have e20 := same_ok 8 (.tup [.str "wrong", .int (a : Int)]) [c7] (ok_t2 (n := 7) rfl rfl)
  refine ⟨.sh (.lst (vs.map numD)), t4, .sh (.lst (bs.map numD)), t6, .sh (.lst [.lst (vs.map numD), .lst (bs.map numD)]), .sh (.lst (dueD vs bs)), t9, .sh (.lst ((ordQ vs).map numD)), t11, t12, t13, t14, t15, t16, t17, .sh (.int a), .sh y, c7, hc7, ?_⟩
  simp only [dueD] at e12 e13 e16 ⊢
  have q1 : bs.length ≤ 16777215 := by omega
  have q2 : a ≤ 16777215 := by omega
  have q3 : min a bs.length ≤ 16777215 := by omega
  have q4 : min a bs.length + 1 + (bs.length - a) ≤ 16777216 := by omega
  rw [List.map_take, List.map_drop] at e19
  by_cases h0 : 0 < a
  · rw [if_pos (by omega)] at ex
    simp [b_law_1, e2, e8, e9, e11, catD, asL, slF, asR, cut_to, cut_from, q1, q3, q4, e12, e13, e14, e16, e17, e18, h0, ex, ey, e19, e20]
  · rw [if_neg (by omega)] at ex
    obtain rfl := (Option.some.inj ex).symm
    simp [b_law_1, e2, e8, e9, e11, catD, asL, slF, asR, cut_to, cut_from, q1, q3, q4, e12, e13, e14, e16, e17, e18, h0, ey, e19, e20]
theorem law_ok (ns : List Int) : ∃ A', runF 20 (g_law F__law_draws F__law_draw F__law_number F__law_order (F__law_copy 8) F__law_less (F__law_same 8) F__law_told F__law_exact F__law_two F__law_mul F_rank_at F_share_bounds) [.scr (ns.map D.int)] [] = .ok (.bl true) A' := by
  have e1 := draws_ok ns
  have h0 : DrC (.lst [.lst (ns.map D.int), .int 0, .int 0, .int 1]) := ⟨ns, 0, 0, 1, rfl, by decide, by decide, by decide, by decide⟩
  generalize (Cell.lst [.lst (ns.map D.int), .int 0, .int 0, .int 1]) = c at e1 h0
  generalize D.scr (ns.map D.int) = z at e1 ⊢
  have e2 : wRng1 (aCons (eC (.int 5)) aNil) [.sh z, .sh (.ref 0), .un, .un, .un, .un, .un, .un, .un, .un, .un, .un, .un, .un, .un, .un, .un, .un, .un, .un] [c] = .ok (rngL 0 5) [c] := wRng1_ok (j := 5) (by simp) (by decide)
  obtain ⟨δ', A2, e3, s2, s3, s4, s5, s6, s7, s8, s9, s10, s11, s12, s13, s14, s15, s16, s17, s18, s19, c', rfl, hc', rfl⟩ := sFor_inv (tgt := gN 2) (body := B1) (I := fun _ δ A => ∃ (s2 s3 s4 s5 s6 s7 s8 s9 s10 s11 s12 s13 s14 s15 s16 s17 s18 s19 : Sl) (c' : Cell), A = [c'] ∧ DrC c' ∧ δ = [.sh z, .sh (.ref 0), s2, s3, s4, s5, s6, s7, s8, s9, s10, s11, s12, s13, s14, s15, s16, s17, s18, s19])
    e2 ⟨_, _, _, _, _, _, _, _, _, _, _, _, _, _, _, _, _, _, c, rfl, h0, rfl⟩ fun k δ A d hd hI => by
      obtain ⟨s2, s3, s4, s5, s6, s7, s8, s9, s10, s11, s12, s13, s14, s15, s16, s17, s18, s19, c', rfl, hc', rfl⟩ := hI
      obtain ⟨t3, t4, t5, t6, t7, t8, t9, t10, t11, t12, t13, t14, t15, t16, t17, t18, t19, c'', hc'', h⟩ := law_turn (s0 := .sh z) (s2 := .sh d) (s3 := s3) (s4 := s4) (s5 := s5) (s6 := s6) (s7 := s7) (s8 := s8) (s9 := s9) (s10 := s10) (s11 := s11) (s12 := s12) (s13 := s13) (s14 := s14) (s15 := s15) (s16 := s16) (s17 := s17) (s18 := s18) (s19 := s19) hc'
      exact ⟨_, _, [c''], gN_d, .inl h, _, _, _, _, _, _, _, _, _, _, _, _, _, _, _, _, _, _, c'', rfl, hc'', rfl⟩
  refine ⟨[c'], ?_⟩
  rw [runF_d]
  simp [g_law, e1, e3]
end K61

namespace K61
open PySem PySem.Spec L2 Pv NdefX
open PyProof.Rows hiding St
/-! ### the error -/
abbrev iM : Stmt := inClass (topS 1) 0
abbrev iW : Stmt := inClass (topS 2) 0
theorem scM : NScope ["self", "at", "name", "__class__"] ["self", "at", "name"] ["__class__"] (defScope iM) := nscope_by (by decide +kernel)
theorem scW : NScope ["self", "at", "__class__"] ["self", "at"] ["__class__"] (defScope iW) := nscope_by (by decide +kernel)
theorem err_mk {P : Program} {w : World} {K : PySem.W.Frag} {mg : Str → Option Value} {base : Heap} {C M fM fW ccM ccW cdM cdW : Addr} (hS : mg "super" = none) (hW : mg "Wrong" = some (.ref C))
    {TM : Addr} {oT : Obj} {v0T : Value} {nT : Nat} {ocM kVM dcM pmM ctM x1 x2 : Value} {odM anM y1 y2 : Option Addr} {slM z1 z2 : Array (Option Value)} {vsM : Array Value} {fileM : Str} {tfM : Tok} {clM : ClassData}
    (lM : K.lookup fM = some ⟨ocM, odM, .func (PySem.W.fnX "__init__" "MeterError.__init__" (defArgs iM) (defBody iM) (defScope iM) [(("__class__" : Str), ccM)] (.ref TM) kVM dcM pmM anM (.ref cdM) ctM), slM⟩) (dT : K.lookup TM = some oT) (dS : oT.data = .seq #[v0T] nT) (cM : PySem.W.codeIn K (.ref cdM) "MeterError.__init__" = true)
    (ceM : K.lookup ccM = some ⟨x1, y1, .cell (some (.ref M)), z1⟩) (coM : K.lookup cdM = some ⟨x2, y2, .fields vsM, z2⟩) (vM : vsM[2]? = some (.str fileM tfM)) (flM : ((P.main.file : Str) == fileM) = true) (qM : PySem.W.clsIn K M = some clM)
    (tM : PySem.W.typeIn K (.ref fM) = some (.type "function")) (nM : PySem.W.fnIn K fM = true)
    {ocW kVW dcW pmW ctW x3 x4 : Value} {odW anW y3 y4 : Option Addr} {slW z3 z4 : Array (Option Value)} {vsW : Array Value} {fileW : Str} {tfW : Tok} {clW : ClassData}
    (lW : K.lookup fW = some ⟨ocW, odW, .func (PySem.W.fnX "__init__" "Wrong.__init__" (defArgs iW) (defBody iW) (defScope iW) [(("__class__" : Str), ccW)] .none kVW dcW pmW anW (.ref cdW) ctW), slW⟩) (cW : PySem.W.codeIn K (.ref cdW) "Wrong.__init__" = true)
    (ceW : K.lookup ccW = some ⟨x3, y3, .cell (some (.ref C)), z3⟩) (coW : K.lookup cdW = some ⟨x4, y4, .fields vsW, z4⟩) (vW : vsW[2]? = some (.str fileW tfW)) (flW : ((P.main.file : Str) == fileW) = true) (qW : PySem.W.clsIn K C = some clW)
    (tW : PySem.W.typeIn K (.ref fW) = some (.type "function"))
    (suW : PySem.W.ks_superIn K C C "__init__" = some (some (.ref fM))) (suM : PySem.W.ks_superIn K C M "__init__" = some (some (.builtin "ValueError.__init__")))
    (m1 : PySem.W.mroIn K C (.ref M) = some true) (m2 : PySem.W.mroIn K C (.ref C) = some true) (ve : PySem.W.subIn K (.ref C) (.type "ValueError") = some true) (be : PySem.W.subIn K (.ref C) (.type "BaseException") = some true)
    (g1 : PySem.W.findIn K (.ref C) "at" = some none) (g2 : PySem.W.findIn K (.ref C) "name" = some none) (g3 : PySem.W.findIn K (.ref C) "__init__" = some (some (.ref fW))) (g4 : PySem.W.findIn K (.ref C) "__setattr__" = some (some (.builtin "object.__setattr__")))
    (tC : PySem.W.typeIn K (.ref C) = some (.type "type")) (kC : PySem.W.keepIn K (.ref C) = true)
    {nm qn : Str} {N : Addr} {bs bm : List Value} {sn : List Str} {sub : List Value} {ab : Bool} {col : Option Bool} {dd : Option Addr} {k0 k1 k2 k3 k5 : Option Value}
    (lC : K.lookup C = some ⟨.type "type", dd, .cls { name := nm, bases := bs, mro := .ref C :: bm, ns := N, qualname := qn, hasDict := true, slotNames := sn, subclasses := sub, abstract := ab, collection := col, hasDel := false }, #[k0, k1, k2, k3, some (.builtin "ValueError.__new__"), k5]⟩) (hbm : PySem.HandSPX.refsVE bm = true)
    (op : PySem.W.nsIn K cStatics "thirdparty.any" = some none) (top : (P.main.scope.names.lookup ("super" : Str)).isSome = false) : Err P w K mg base 6 "Wrong" C := by
  have OC : OexC K C := ⟨⟨nm, qn, N, bs, bm, sn, sub, ab, col, dd, k0, k1, k2, k3, k5, lC, hbm⟩, g4, be, tC, kC⟩
  have MCC : MC K M C := ⟨OC, m1, suM, ve, g1, g2⟩
  let FM : NF := ⟨"__init__", "MeterError.__init__", defArgs iM, defBody iM, defScope iM, [(("__class__" : Str), ccM)], cdM⟩
  let FW : NF := ⟨"__init__", "Wrong.__init__", defArgs iW, defBody iW, defScope iW, [(("__class__" : Str), ccW)], cdW⟩
  have SM : SupF P K FM fM M ccM "self" := ⟨rfl, ⟨_, _, _, _, _, lM, rfl, rfl⟩, ⟨_, _, _, _, _, _, coM, vM, flM⟩, ⟨_, _, _, ceM⟩, ⟨_, qM⟩, by rfl, by rfl, by rfl, by rfl, top, op⟩
  have SW : SupF P K FW fW C ccW "self" := ⟨rfl, ⟨_, _, _, _, _, lW, rfl, rfl⟩, ⟨_, _, _, _, _, _, coW, vW, flW⟩, ⟨_, _, _, ceW⟩, ⟨_, qW⟩, by rfl, by rfl, by rfl, by rfl, top, op⟩
  have OKM : FnOk P w K mg base (L2.CX P w) 3 fM (PySem.W.fnX "__init__" "MeterError.__init__" (defArgs iM) (defBody iM) (defScope iM) [(("__class__" : Str), ccM)] (.ref TM) kVM dcM pmM anM (.ref cdM) ctM) ["self", "at", "name"] (spM K M) := by
    refine FnOk.ofSup (F := FM) (D := M) lM cM rfl ⟨_, _, _, ceM⟩ scM (fun vs H Q E h => ?_) fun A outer s H vs us Q E h₁ tk hr hsp r hns I => ?_
    · obtain ⟨a, C, v, n, rfl, _⟩ := h; rfl
    · obtain ⟨a, C', v, n, rfl, M', ea, q⟩ := hsp
      cases r with
      | @cons _ u0 _ ur ra rr =>
        obtain rfl : u0 = Value.ref a := ra
        have hm : (fun y => ((["self", "at", "name"] : List Str).zip (Value.ref a :: ur)).reverse.lookup y) ("self" : Str) = some (.ref a) := by
          cases rr with
          | @cons _ u1 _ ur1 _ rr =>
            cases rr with
            | @cons _ u2 _ ur2 _ rr =>
              cases rr
              rfl
        exact at_super_mw (D := M) (sf := "self") SM M' I hS hns hm ea (pa_cons (pv 1) pa_nil) (pss_cons (ps_ost (pv 0) (pv 1)) (pss_cons (ps_ost (pv 0) (pv 2)) pss_nil)) ⟨v, rfl, by simp, ea, meter_q M' rfl rfl rfl ea q⟩ (by rfl) (by rfl) (by rfl) (by rfl) (by rfl)
  have OKW : FnOk P w K mg base (L2.CX P w) 5 fW (PySem.W.fnX "__init__" "Wrong.__init__" (defArgs iW) (defBody iW) (defScope iW) [(("__class__" : Str), ccW)] .none kVW dcW pmW anW (.ref cdW) ctW) ["self", "at"] (spI C) := by
    refine FnOk.ofSup (F := FW) (D := C) lW cW rfl ⟨_, _, _, ceW⟩ scW (fun vs H Q E h => ?_) fun A outer s H vs us Q E h₁ tk hr hsp r hns I => ?_
    · obtain ⟨a, v, rfl, _⟩ := h; rfl
    · obtain ⟨a, v, rfl, ea, q⟩ := hsp
      cases r with
      | @cons _ u0 _ ur ra rr =>
        obtain rfl : u0 = Value.ref a := ra
        have hm : (fun y => ((["self", "at"] : List Str).zip (Value.ref a :: ur)).reverse.lookup y) ("self" : Str) = some (.ref a) := by
          cases rr with
          | @cons _ u1 _ ur1 _ rr =>
            cases rr
            rfl
        have R2 : FnR P w K mg base (L2.CX P w) 3 fM (spM K M) := by
          have hB : Binds K (PySem.W.fnX "__init__" "MeterError.__init__" (defArgs iM) (defBody iM) (defScope iM) [(("__class__" : Str), ccM)] (.ref TM) kVM dcM pmM anM (.ref cdM) ctM) ["self", "at", "name"] [] := fun s us KX hl => by
            match us, hl with
            | [u0, u1, u2], _ => exact PySem.W.binds_K KX rfl dT dS rfl rfl
          have := OKM.raw (ds := []) (dvs := []) hB .nil
          exact this.imp fun vs H Q E h => by rw [List.append_nil]; exact h
        exact at_super_met (D := C) (C := C) (sf := "self") (f2 := fM) SW suW tM nM m2 R2 (hr.mono (by decide)) I hS hns hm ea (pa_cons (pv 1) (pa_cons pe_str pa_nil)) pss_nil (super_q (D' := { nx := fun _ H' => Q .non H', rt := Q }) MCC rfl ea q) (by rfl) (by rfl) (by rfl) (by rfl) (by rfl)
  refine ⟨OC, hW, fW, _, g3, tW, OKW.mono (by decide), ?_⟩
  exact .all fun us hl => match us, hl with | [_, _], _ => rfl
theorem cal_zero {P : Program} {w : World} {K : PySem.W.Frag} {mg : Str → Option Value} {base : Heap} {x : Str} {st : Stmt} {ps : List Str} (F : FunG K mg x st ps) : Cal P w K mg base 0 x ps.length (fun _ _ => .un) := by
  obtain ⟨f, fd, F, hm, hb⟩ := F.ex
  exact ⟨f, fd, ps, ⟨fun vs H Q E h => h.1, fun A outer s H args us vs Q E hr e0 hbd r ⟨_, _, _, _, _, _, _, h⟩ => h.elim⟩, hm, F.kp, hb⟩
def spLaw (K : PySem.W.Frag) : Sp := fun vs H Q E => ∃ (a : Addr) (ns : List Int), vs = [.ref a] ∧ SqL K H a (ns.map V.int) ∧ ∀ H', Q (.bl true) H'
theorem rpa_ints {K : PySem.W.Frag} {S : Hp} {μ : List Addr} : ∀ ns : List Int, RpA K S μ (ns.map V.int) (ns.map D.int)
  | [] => .nil
  | n :: ns => .cons (.int n) (rpa_ints ns)
theorem chain {P : Program} {w : World} {K : PySem.W.Frag} {mg : Str → Option Value} {base : Heap} (h_divisor : FunG K mg "divisor" s_divisor ["a", "b"]) (h_ratio : FunG K mg "ratio" s_ratio ["above", "below"]) (h_parts : FunG K mg "parts" s_parts ["number"]) (h_add : FunG K mg "add" s_add ["one", "other"]) (h_minus : FunG K mg "minus" s_minus ["number"]) (h_sub : FunG K mg "sub" s_sub ["one", "other"]) (h_mul : FunG K mg "mul" s_mul ["one", "other"]) (h_sign : FunG K mg "sign" s_sign ["number"]) (h_less : FunG K mg "less" s_less ["one", "other"]) (h_is_number : FunG K mg "is_number" s_is_number ["value"]) (h_counted : FunG K mg "counted" s_counted ["values", "bounds"]) (h_rank_at : FunG K mg "rank_at" s_rank_at ["share", "many"]) (h_share_bounds : FunG K mg "share_bounds" s_share_bounds ["share", "buckets"]) (h__law_draws : FunG K mg "_law_draws" s__law_draws ["script"]) (h__law_draw : FunG K mg "_law_draw" s__law_draw ["draws", "limit"]) (h__law_same : FunG K mg "_law_same" s__law_same ["x", "due"]) (h__law_copy : FunG K mg "_law_copy" s__law_copy ["thing"]) (h__law_exact : FunG K mg "_law_exact" s__law_exact ["above", "below"]) (h__law_two : FunG K mg "_law_two" s__law_two ["number"]) (h__law_mul : FunG K mg "_law_mul" s__law_mul ["one", "other"]) (h__law_less : FunG K mg "_law_less" s__law_less ["one", "other"]) (h__law_number : FunG K mg "_law_number" s__law_number ["draws"]) (h__law_order : FunG K mg "_law_order" s__law_order ["values"]) (h__law_told : FunG K mg "_law_told" s__law_told ["values", "bounds"]) (h_law : FunG K mg "law" s_law ["script"]) (m_abs : mg "abs" = none) (m_isinstance : mg "isinstance" = none) (m_tuple : mg "tuple" = none) (m_len : mg "len" = none) (m_all : mg "all" = none) (m_int : mg "int" = none) (m_bool : mg "bool" = none) (m_range : mg "range" = none) (m_list : mg "list" = none) (m_str : mg "str" = none) (m_dict : mg "dict" = none) (m_max : mg "max" = none)
    {C : Addr} (e_Wrong : Err P w K mg base 6 "Wrong" C) (q_Wrong : Catch K mg catW (.ref C)) {f : Addr} {fd : FuncData} (FL : L2.Fun K "law" "law" s_law f fd) : FnOk P w K mg base (L2.CX P w) 18 f fd ["script"] (spF K mg 1 (runF 20 (g_law F__law_draws F__law_draw F__law_number F__law_order (F__law_copy 8) F__law_less (F__law_same 8) F__law_told F__law_exact F__law_two F__law_mul F_rank_at F_share_bounds))) := by
  have c_divisor : Cal P w K mg base 2 "divisor" 2 F_divisor := cal_divisor (k := 0) h_divisor 
  have c_ratio : Cal P w K mg base 4 "ratio" 2 F_ratio := cal_ratio (k := 2) h_ratio m_abs (c_divisor.mono (by decide))
  have c_parts : Cal P w K mg base 2 "parts" 1 F_parts := cal_parts (k := 0) h_parts m_isinstance m_tuple
  have c_add : Cal P w K mg base 6 "add" 2 F_add := cal_add (k := 4) h_add (c_parts.mono (by decide)) (c_ratio.mono (by decide))
  have c_minus : Cal P w K mg base 6 "minus" 1 F_minus := cal_minus (k := 4) h_minus (c_parts.mono (by decide)) (c_ratio.mono (by decide))
  have c_sub : Cal P w K mg base 8 "sub" 2 F_sub := cal_sub (k := 6) h_sub (c_add.mono (by decide)) (c_minus.mono (by decide))
  have c_mul : Cal P w K mg base 6 "mul" 2 F_mul := cal_mul (k := 4) h_mul (c_parts.mono (by decide)) (c_ratio.mono (by decide))
  have c_sign : Cal P w K mg base 4 "sign" 1 F_sign := cal_sign (k := 2) h_sign (c_parts.mono (by decide))
  have c_less : Cal P w K mg base 10 "less" 2 F_less := cal_less (k := 8) h_less (c_sign.mono (by decide)) (c_sub.mono (by decide))
  have c_is_number : Cal P w K mg base 4 "is_number" 1 F_is_number := cal_is_number (k := 2) h_is_number m_isinstance m_tuple m_len m_all m_int m_bool m_abs (c_divisor.mono (by decide))
  have c_counted : Cal P w K mg base 12 "counted" 2 F_counted := cal_counted (k := 10) h_counted m_range m_len (c_is_number.mono (by decide)) (c_less.mono (by decide)) (e_Wrong.mono (by decide))
  have c_rank_at : Cal P w K mg base 8 "rank_at" 2 F_rank_at := cal_rank_at (k := 6) h_rank_at m_isinstance m_tuple (c_mul.mono (by decide))
  have c_share_bounds : Cal P w K mg base 10 "share_bounds" 2 F_share_bounds := cal_share_bounds (k := 8) h_share_bounds m_range m_len (c_rank_at.mono (by decide))
  have c__law_draws : Cal P w K mg base 2 "_law_draws" 1 F__law_draws := cal__law_draws (k := 0) h__law_draws m_list
  have c__law_draw : Cal P w K mg base 2 "_law_draw" 2 F__law_draw := cal__law_draw (k := 0) h__law_draw m_len m_int
  have d__law_same : ∀ n, Cal P w K mg base (2 * n) "_law_same" 2 (F__law_same n) := fun n => by
    induction n with
    | zero => exact cal_zero h__law_same
    | succ n ih => exact cal__law_same h__law_same m_isinstance m_bool m_int m_str m_dict m_len m_all m_list m_tuple m_range ih
  have c__law_same : Cal P w K mg base 16 "_law_same" 2 (F__law_same 8) := d__law_same 8
  have d__law_copy : ∀ n, Cal P w K mg base (2 * n) "_law_copy" 1 (F__law_copy n) := fun n => by
    induction n with
    | zero => exact cal_zero h__law_copy
    | succ n ih => exact cal__law_copy h__law_copy m_isinstance m_list m_tuple m_dict ih
  have c__law_copy : Cal P w K mg base 16 "_law_copy" 1 (F__law_copy 8) := d__law_copy 8
  have c__law_exact : Cal P w K mg base 2 "_law_exact" 2 F__law_exact := cal__law_exact (k := 0) h__law_exact m_max m_int
  have c__law_two : Cal P w K mg base 2 "_law_two" 1 F__law_two := cal__law_two (k := 0) h__law_two m_isinstance m_tuple
  have c__law_mul : Cal P w K mg base 4 "_law_mul" 2 F__law_mul := cal__law_mul (k := 2) h__law_mul (c__law_two.mono (by decide)) (c__law_exact.mono (by decide))
  have c__law_less : Cal P w K mg base 4 "_law_less" 2 F__law_less := cal__law_less (k := 2) h__law_less (c__law_two.mono (by decide))
  have c__law_number : Cal P w K mg base 4 "_law_number" 1 F__law_number := cal__law_number (k := 2) h__law_number (c__law_exact.mono (by decide)) (c__law_draw.mono (by decide))
  have c__law_order : Cal P w K mg base 6 "_law_order" 1 F__law_order := cal__law_order (k := 4) h__law_order m_len (c__law_less.mono (by decide))
  have c__law_told : Cal P w K mg base 14 "_law_told" 2 F__law_told := cal__law_told (k := 12) h__law_told (c_counted.mono (by decide)) q_Wrong e_Wrong.m
  exact FnOk.ofBody FL sc_law (fun cdv A outer s H E hr => der_law (k := 16) m_range m_len m_max (c__law_draws.mono (by decide)) (c__law_draw.mono (by decide)) (c__law_number.mono (by decide)) (c__law_order.mono (by decide)) (c__law_copy.mono (by decide)) (c__law_less.mono (by decide)) (c__law_same.mono (by decide)) (c__law_told.mono (by decide)) (c__law_exact.mono (by decide)) (c__law_two.mono (by decide)) (c__law_mul.mono (by decide)) (c_rank_at.mono (by decide)) (c_share_bounds.mono (by decide)) f cdv A outer s H E hr)
theorem all_mk {l : PySem.W.OpenLaw} {w : World} {K : PySem.W.Frag} {h : Heap} {mg : Str → Option Value} {fa : Addr} (X : K.In h) (G : h.Ns mainGlobals mg) (hfa : mg "law" = some (.ref fa))
    {f0 : Addr} {oc0 kV0 dc0 pm0 cd0 ct0 : Value} {od0 an0 : Option Addr} {sl0 : Array (Option Value)}
    {f1 : Addr} {oc1 kV1 dc1 pm1 cd1 ct1 : Value} {od1 an1 : Option Addr} {sl1 : Array (Option Value)}
    {f2 : Addr} {oc2 kV2 dc2 pm2 cd2 ct2 : Value} {od2 an2 : Option Addr} {sl2 : Array (Option Value)}
    {f3 : Addr} {oc3 kV3 dc3 pm3 cd3 ct3 : Value} {od3 an3 : Option Addr} {sl3 : Array (Option Value)}
    {f4 : Addr} {oc4 kV4 dc4 pm4 cd4 ct4 : Value} {od4 an4 : Option Addr} {sl4 : Array (Option Value)}
    {f5 : Addr} {oc5 kV5 dc5 pm5 cd5 ct5 : Value} {od5 an5 : Option Addr} {sl5 : Array (Option Value)}
    {f6 : Addr} {oc6 kV6 dc6 pm6 cd6 ct6 : Value} {od6 an6 : Option Addr} {sl6 : Array (Option Value)}
    {f7 : Addr} {oc7 kV7 dc7 pm7 cd7 ct7 : Value} {od7 an7 : Option Addr} {sl7 : Array (Option Value)}
    {f8 : Addr} {oc8 kV8 dc8 pm8 cd8 ct8 : Value} {od8 an8 : Option Addr} {sl8 : Array (Option Value)}
    {f9 : Addr} {oc9 kV9 dc9 pm9 cd9 ct9 : Value} {od9 an9 : Option Addr} {sl9 : Array (Option Value)}
    {f10 : Addr} {oc10 kV10 dc10 pm10 cd10 ct10 : Value} {od10 an10 : Option Addr} {sl10 : Array (Option Value)}
    {f11 : Addr} {oc11 kV11 dc11 pm11 cd11 ct11 : Value} {od11 an11 : Option Addr} {sl11 : Array (Option Value)}
    {f12 : Addr} {oc12 kV12 dc12 pm12 cd12 ct12 : Value} {od12 an12 : Option Addr} {sl12 : Array (Option Value)}
    {f13 : Addr} {oc13 kV13 dc13 pm13 cd13 ct13 : Value} {od13 an13 : Option Addr} {sl13 : Array (Option Value)}
    {f14 : Addr} {oc14 kV14 dc14 pm14 cd14 ct14 : Value} {od14 an14 : Option Addr} {sl14 : Array (Option Value)}
    {f15 : Addr} {oc15 kV15 dc15 pm15 cd15 ct15 : Value} {od15 an15 : Option Addr} {sl15 : Array (Option Value)}
    {f16 : Addr} {oc16 kV16 dc16 pm16 cd16 ct16 : Value} {od16 an16 : Option Addr} {sl16 : Array (Option Value)}
    {f17 : Addr} {oc17 kV17 dc17 pm17 cd17 ct17 : Value} {od17 an17 : Option Addr} {sl17 : Array (Option Value)}
    {f18 : Addr} {oc18 kV18 dc18 pm18 cd18 ct18 : Value} {od18 an18 : Option Addr} {sl18 : Array (Option Value)}
    {f19 : Addr} {oc19 kV19 dc19 pm19 cd19 ct19 : Value} {od19 an19 : Option Addr} {sl19 : Array (Option Value)}
    {f20 : Addr} {oc20 kV20 dc20 pm20 cd20 ct20 : Value} {od20 an20 : Option Addr} {sl20 : Array (Option Value)}
    {f21 : Addr} {oc21 kV21 dc21 pm21 cd21 ct21 : Value} {od21 an21 : Option Addr} {sl21 : Array (Option Value)}
    {f22 : Addr} {oc22 kV22 dc22 pm22 cd22 ct22 : Value} {od22 an22 : Option Addr} {sl22 : Array (Option Value)}
    {f23 : Addr} {oc23 kV23 dc23 pm23 cd23 ct23 : Value} {od23 an23 : Option Addr} {sl23 : Array (Option Value)}
    {f24 : Addr} {oc24 kV24 dc24 pm24 cd24 ct24 : Value} {od24 an24 : Option Addr} {sl24 : Array (Option Value)}
    (a0 : PySem.W.nsIn K mainGlobals "divisor" = some (some (.ref f0))) (l0 : K.lookup f0 = some ⟨oc0, od0, .func (PySem.W.fnOf "divisor" "divisor" (defArgs s_divisor) (defBody s_divisor) (defScope s_divisor) .none kV0 dc0 pm0 an0 cd0 ct0), sl0⟩) (c0 : PySem.W.codeIn K cd0 "divisor" = true) (kk0 : PySem.W.keepIn K (.ref f0) = true)
    (a1 : PySem.W.nsIn K mainGlobals "ratio" = some (some (.ref f1))) (l1 : K.lookup f1 = some ⟨oc1, od1, .func (PySem.W.fnOf "ratio" "ratio" (defArgs s_ratio) (defBody s_ratio) (defScope s_ratio) .none kV1 dc1 pm1 an1 cd1 ct1), sl1⟩) (c1 : PySem.W.codeIn K cd1 "ratio" = true) (kk1 : PySem.W.keepIn K (.ref f1) = true)
    (a2 : PySem.W.nsIn K mainGlobals "parts" = some (some (.ref f2))) (l2 : K.lookup f2 = some ⟨oc2, od2, .func (PySem.W.fnOf "parts" "parts" (defArgs s_parts) (defBody s_parts) (defScope s_parts) .none kV2 dc2 pm2 an2 cd2 ct2), sl2⟩) (c2 : PySem.W.codeIn K cd2 "parts" = true) (kk2 : PySem.W.keepIn K (.ref f2) = true)
    (a3 : PySem.W.nsIn K mainGlobals "add" = some (some (.ref f3))) (l3 : K.lookup f3 = some ⟨oc3, od3, .func (PySem.W.fnOf "add" "add" (defArgs s_add) (defBody s_add) (defScope s_add) .none kV3 dc3 pm3 an3 cd3 ct3), sl3⟩) (c3 : PySem.W.codeIn K cd3 "add" = true) (kk3 : PySem.W.keepIn K (.ref f3) = true)
    (a4 : PySem.W.nsIn K mainGlobals "minus" = some (some (.ref f4))) (l4 : K.lookup f4 = some ⟨oc4, od4, .func (PySem.W.fnOf "minus" "minus" (defArgs s_minus) (defBody s_minus) (defScope s_minus) .none kV4 dc4 pm4 an4 cd4 ct4), sl4⟩) (c4 : PySem.W.codeIn K cd4 "minus" = true) (kk4 : PySem.W.keepIn K (.ref f4) = true)
    (a5 : PySem.W.nsIn K mainGlobals "sub" = some (some (.ref f5))) (l5 : K.lookup f5 = some ⟨oc5, od5, .func (PySem.W.fnOf "sub" "sub" (defArgs s_sub) (defBody s_sub) (defScope s_sub) .none kV5 dc5 pm5 an5 cd5 ct5), sl5⟩) (c5 : PySem.W.codeIn K cd5 "sub" = true) (kk5 : PySem.W.keepIn K (.ref f5) = true)
    (a6 : PySem.W.nsIn K mainGlobals "mul" = some (some (.ref f6))) (l6 : K.lookup f6 = some ⟨oc6, od6, .func (PySem.W.fnOf "mul" "mul" (defArgs s_mul) (defBody s_mul) (defScope s_mul) .none kV6 dc6 pm6 an6 cd6 ct6), sl6⟩) (c6 : PySem.W.codeIn K cd6 "mul" = true) (kk6 : PySem.W.keepIn K (.ref f6) = true)
    (a7 : PySem.W.nsIn K mainGlobals "sign" = some (some (.ref f7))) (l7 : K.lookup f7 = some ⟨oc7, od7, .func (PySem.W.fnOf "sign" "sign" (defArgs s_sign) (defBody s_sign) (defScope s_sign) .none kV7 dc7 pm7 an7 cd7 ct7), sl7⟩) (c7 : PySem.W.codeIn K cd7 "sign" = true) (kk7 : PySem.W.keepIn K (.ref f7) = true)
    (a8 : PySem.W.nsIn K mainGlobals "less" = some (some (.ref f8))) (l8 : K.lookup f8 = some ⟨oc8, od8, .func (PySem.W.fnOf "less" "less" (defArgs s_less) (defBody s_less) (defScope s_less) .none kV8 dc8 pm8 an8 cd8 ct8), sl8⟩) (c8 : PySem.W.codeIn K cd8 "less" = true) (kk8 : PySem.W.keepIn K (.ref f8) = true)
    (a9 : PySem.W.nsIn K mainGlobals "is_number" = some (some (.ref f9))) (l9 : K.lookup f9 = some ⟨oc9, od9, .func (PySem.W.fnOf "is_number" "is_number" (defArgs s_is_number) (defBody s_is_number) (defScope s_is_number) .none kV9 dc9 pm9 an9 cd9 ct9), sl9⟩) (c9 : PySem.W.codeIn K cd9 "is_number" = true) (kk9 : PySem.W.keepIn K (.ref f9) = true)
    (a10 : PySem.W.nsIn K mainGlobals "counted" = some (some (.ref f10))) (l10 : K.lookup f10 = some ⟨oc10, od10, .func (PySem.W.fnOf "counted" "counted" (defArgs s_counted) (defBody s_counted) (defScope s_counted) .none kV10 dc10 pm10 an10 cd10 ct10), sl10⟩) (c10 : PySem.W.codeIn K cd10 "counted" = true) (kk10 : PySem.W.keepIn K (.ref f10) = true)
    (a11 : PySem.W.nsIn K mainGlobals "rank_at" = some (some (.ref f11))) (l11 : K.lookup f11 = some ⟨oc11, od11, .func (PySem.W.fnOf "rank_at" "rank_at" (defArgs s_rank_at) (defBody s_rank_at) (defScope s_rank_at) .none kV11 dc11 pm11 an11 cd11 ct11), sl11⟩) (c11 : PySem.W.codeIn K cd11 "rank_at" = true) (kk11 : PySem.W.keepIn K (.ref f11) = true)
    (a12 : PySem.W.nsIn K mainGlobals "share_bounds" = some (some (.ref f12))) (l12 : K.lookup f12 = some ⟨oc12, od12, .func (PySem.W.fnOf "share_bounds" "share_bounds" (defArgs s_share_bounds) (defBody s_share_bounds) (defScope s_share_bounds) .none kV12 dc12 pm12 an12 cd12 ct12), sl12⟩) (c12 : PySem.W.codeIn K cd12 "share_bounds" = true) (kk12 : PySem.W.keepIn K (.ref f12) = true)
    (a13 : PySem.W.nsIn K mainGlobals "_law_draws" = some (some (.ref f13))) (l13 : K.lookup f13 = some ⟨oc13, od13, .func (PySem.W.fnOf "_law_draws" "_law_draws" (defArgs s__law_draws) (defBody s__law_draws) (defScope s__law_draws) .none kV13 dc13 pm13 an13 cd13 ct13), sl13⟩) (c13 : PySem.W.codeIn K cd13 "_law_draws" = true) (kk13 : PySem.W.keepIn K (.ref f13) = true)
    (a14 : PySem.W.nsIn K mainGlobals "_law_draw" = some (some (.ref f14))) (l14 : K.lookup f14 = some ⟨oc14, od14, .func (PySem.W.fnOf "_law_draw" "_law_draw" (defArgs s__law_draw) (defBody s__law_draw) (defScope s__law_draw) .none kV14 dc14 pm14 an14 cd14 ct14), sl14⟩) (c14 : PySem.W.codeIn K cd14 "_law_draw" = true) (kk14 : PySem.W.keepIn K (.ref f14) = true)
    (a15 : PySem.W.nsIn K mainGlobals "_law_same" = some (some (.ref f15))) (l15 : K.lookup f15 = some ⟨oc15, od15, .func (PySem.W.fnOf "_law_same" "_law_same" (defArgs s__law_same) (defBody s__law_same) (defScope s__law_same) .none kV15 dc15 pm15 an15 cd15 ct15), sl15⟩) (c15 : PySem.W.codeIn K cd15 "_law_same" = true) (kk15 : PySem.W.keepIn K (.ref f15) = true)
    (a16 : PySem.W.nsIn K mainGlobals "_law_copy" = some (some (.ref f16))) (l16 : K.lookup f16 = some ⟨oc16, od16, .func (PySem.W.fnOf "_law_copy" "_law_copy" (defArgs s__law_copy) (defBody s__law_copy) (defScope s__law_copy) .none kV16 dc16 pm16 an16 cd16 ct16), sl16⟩) (c16 : PySem.W.codeIn K cd16 "_law_copy" = true) (kk16 : PySem.W.keepIn K (.ref f16) = true)
    (a17 : PySem.W.nsIn K mainGlobals "_law_exact" = some (some (.ref f17))) (l17 : K.lookup f17 = some ⟨oc17, od17, .func (PySem.W.fnOf "_law_exact" "_law_exact" (defArgs s__law_exact) (defBody s__law_exact) (defScope s__law_exact) .none kV17 dc17 pm17 an17 cd17 ct17), sl17⟩) (c17 : PySem.W.codeIn K cd17 "_law_exact" = true) (kk17 : PySem.W.keepIn K (.ref f17) = true)
    (a18 : PySem.W.nsIn K mainGlobals "_law_two" = some (some (.ref f18))) (l18 : K.lookup f18 = some ⟨oc18, od18, .func (PySem.W.fnOf "_law_two" "_law_two" (defArgs s__law_two) (defBody s__law_two) (defScope s__law_two) .none kV18 dc18 pm18 an18 cd18 ct18), sl18⟩) (c18 : PySem.W.codeIn K cd18 "_law_two" = true) (kk18 : PySem.W.keepIn K (.ref f18) = true)
    (a19 : PySem.W.nsIn K mainGlobals "_law_mul" = some (some (.ref f19))) (l19 : K.lookup f19 = some ⟨oc19, od19, .func (PySem.W.fnOf "_law_mul" "_law_mul" (defArgs s__law_mul) (defBody s__law_mul) (defScope s__law_mul) .none kV19 dc19 pm19 an19 cd19 ct19), sl19⟩) (c19 : PySem.W.codeIn K cd19 "_law_mul" = true) (kk19 : PySem.W.keepIn K (.ref f19) = true)
    (a20 : PySem.W.nsIn K mainGlobals "_law_less" = some (some (.ref f20))) (l20 : K.lookup f20 = some ⟨oc20, od20, .func (PySem.W.fnOf "_law_less" "_law_less" (defArgs s__law_less) (defBody s__law_less) (defScope s__law_less) .none kV20 dc20 pm20 an20 cd20 ct20), sl20⟩) (c20 : PySem.W.codeIn K cd20 "_law_less" = true) (kk20 : PySem.W.keepIn K (.ref f20) = true)
    (a21 : PySem.W.nsIn K mainGlobals "_law_number" = some (some (.ref f21))) (l21 : K.lookup f21 = some ⟨oc21, od21, .func (PySem.W.fnOf "_law_number" "_law_number" (defArgs s__law_number) (defBody s__law_number) (defScope s__law_number) .none kV21 dc21 pm21 an21 cd21 ct21), sl21⟩) (c21 : PySem.W.codeIn K cd21 "_law_number" = true) (kk21 : PySem.W.keepIn K (.ref f21) = true)
    (a22 : PySem.W.nsIn K mainGlobals "_law_order" = some (some (.ref f22))) (l22 : K.lookup f22 = some ⟨oc22, od22, .func (PySem.W.fnOf "_law_order" "_law_order" (defArgs s__law_order) (defBody s__law_order) (defScope s__law_order) .none kV22 dc22 pm22 an22 cd22 ct22), sl22⟩) (c22 : PySem.W.codeIn K cd22 "_law_order" = true) (kk22 : PySem.W.keepIn K (.ref f22) = true)
    (a23 : PySem.W.nsIn K mainGlobals "_law_told" = some (some (.ref f23))) (l23 : K.lookup f23 = some ⟨oc23, od23, .func (PySem.W.fnOf "_law_told" "_law_told" (defArgs s__law_told) (defBody s__law_told) (defScope s__law_told) .none kV23 dc23 pm23 an23 cd23 ct23), sl23⟩) (c23 : PySem.W.codeIn K cd23 "_law_told" = true) (kk23 : PySem.W.keepIn K (.ref f23) = true)
    (a24 : PySem.W.nsIn K mainGlobals "law" = some (some (.ref f24))) (l24 : K.lookup f24 = some ⟨oc24, od24, .func (PySem.W.fnOf "law" "law" (defArgs s_law) (defBody s_law) (defScope s_law) .none kV24 dc24 pm24 an24 cd24 ct24), sl24⟩) (c24 : PySem.W.codeIn K cd24 "law" = true) (kk24 : PySem.W.keepIn K (.ref f24) = true)
    (z_abs : PySem.W.nsIn K mainGlobals "abs" = some none) (z_isinstance : PySem.W.nsIn K mainGlobals "isinstance" = some none) (z_tuple : PySem.W.nsIn K mainGlobals "tuple" = some none) (z_len : PySem.W.nsIn K mainGlobals "len" = some none) (z_all : PySem.W.nsIn K mainGlobals "all" = some none) (z_int : PySem.W.nsIn K mainGlobals "int" = some none) (z_bool : PySem.W.nsIn K mainGlobals "bool" = some none) (z_range : PySem.W.nsIn K mainGlobals "range" = some none) (z_list : PySem.W.nsIn K mainGlobals "list" = some none) (z_str : PySem.W.nsIn K mainGlobals "str" = some none) (z_dict : PySem.W.nsIn K mainGlobals "dict" = some none) (z_max : PySem.W.nsIn K mainGlobals "max" = some none) (z_super : PySem.W.nsIn K mainGlobals "super" = some none)
    {C M fM fW ccM ccW cdM cdW : Addr} (aW : PySem.W.nsIn K mainGlobals "Wrong" = some (some (.ref C)))
    
    {TM : Addr} {oT : Obj} {v0T : Value} {nT : Nat} {ocM kVM dcM pmM ctM x1 x2 : Value} {odM anM y1 y2 : Option Addr} {slM z1 z2 : Array (Option Value)} {vsM : Array Value} {fileM : Str} {tfM : Tok} {clM : ClassData}
    (lM : K.lookup fM = some ⟨ocM, odM, .func (PySem.W.fnX "__init__" "MeterError.__init__" (defArgs iM) (defBody iM) (defScope iM) [(("__class__" : Str), ccM)] (.ref TM) kVM dcM pmM anM (.ref cdM) ctM), slM⟩) (dT : K.lookup TM = some oT) (dS : oT.data = .seq #[v0T] nT) (cM : PySem.W.codeIn K (.ref cdM) "MeterError.__init__" = true)
    (ceM : K.lookup ccM = some ⟨x1, y1, .cell (some (.ref M)), z1⟩) (coM : K.lookup cdM = some ⟨x2, y2, .fields vsM, z2⟩) (vM : vsM[2]? = some (.str fileM tfM)) (flM : ((l.prog.main.file : Str) == fileM) = true) (qM : PySem.W.clsIn K M = some clM)
    (tM : PySem.W.typeIn K (.ref fM) = some (.type "function")) (nM : PySem.W.fnIn K fM = true)
    {ocW kVW dcW pmW ctW x3 x4 : Value} {odW anW y3 y4 : Option Addr} {slW z3 z4 : Array (Option Value)} {vsW : Array Value} {fileW : Str} {tfW : Tok} {clW : ClassData}
    (lW : K.lookup fW = some ⟨ocW, odW, .func (PySem.W.fnX "__init__" "Wrong.__init__" (defArgs iW) (defBody iW) (defScope iW) [(("__class__" : Str), ccW)] .none kVW dcW pmW anW (.ref cdW) ctW), slW⟩) (cW : PySem.W.codeIn K (.ref cdW) "Wrong.__init__" = true)
    (ceW : K.lookup ccW = some ⟨x3, y3, .cell (some (.ref C)), z3⟩) (coW : K.lookup cdW = some ⟨x4, y4, .fields vsW, z4⟩) (vW : vsW[2]? = some (.str fileW tfW)) (flW : ((l.prog.main.file : Str) == fileW) = true) (qW : PySem.W.clsIn K C = some clW)
    (tW : PySem.W.typeIn K (.ref fW) = some (.type "function"))
    (suW : PySem.W.ks_superIn K C C "__init__" = some (some (.ref fM))) (suM : PySem.W.ks_superIn K C M "__init__" = some (some (.builtin "ValueError.__init__")))
    (m1 : PySem.W.mroIn K C (.ref M) = some true) (m2 : PySem.W.mroIn K C (.ref C) = some true) (ve : PySem.W.subIn K (.ref C) (.type "ValueError") = some true) (be : PySem.W.subIn K (.ref C) (.type "BaseException") = some true)
    (g1 : PySem.W.findIn K (.ref C) "at" = some none) (g2 : PySem.W.findIn K (.ref C) "name" = some none) (g3 : PySem.W.findIn K (.ref C) "__init__" = some (some (.ref fW))) (g4 : PySem.W.findIn K (.ref C) "__setattr__" = some (some (.builtin "object.__setattr__")))
    (tC : PySem.W.typeIn K (.ref C) = some (.type "type")) (kC : PySem.W.keepIn K (.ref C) = true)
    {nm qn : Str} {N : Addr} {bs bm : List Value} {sn : List Str} {sub : List Value} {ab : Bool} {col : Option Bool} {dd : Option Addr} {k0 k1 k2 k3 k5 : Option Value}
    (lC : K.lookup C = some ⟨.type "type", dd, .cls { name := nm, bases := bs, mro := .ref C :: bm, ns := N, qualname := qn, hasDict := true, slotNames := sn, subclasses := sub, abstract := ab, collection := col, hasDel := false }, #[k0, k1, k2, k3, some (.builtin "ValueError.__new__"), k5]⟩) (hbm : PySem.HandSPX.refsVE bm = true)
    (op : PySem.W.nsIn K cStatics "thirdparty.any" = some none) (top : (l.prog.main.scope.names.lookup ("super" : Str)).isSome = false) 
    (g5 : PySem.W.findIn K (.ref C) "__getattribute__" = some (some (.builtin "BaseException.__getattribute__"))) (g6 : PySem.W.findIn K (.ref C) "__getattr__" = some none) (hdC : PySem.W.hasDictIn K C = true) (exC : PySem.W.exmOne K (.ref C) (.ref C) = some true) :
    ∃ fd : FuncData, (∀ (s : Shared) (v : Value), BindsTo s fd ⟨[v], []⟩ [("script", v)]) ∧ ∀ base : Heap, K.In base → base.Ns mainGlobals mg → FnOk l.prog w K mg base (L2.CX l.prog w) 18 fa fd ["script"] (spLaw K) := by
  have h_divisor : FunG K mg "divisor" s_divisor ["a", "b"] := ⟨f0, _, fun_mk l0 c0 kk0, PySem.W.mg_of X G a0, (fun_mk (st := s_divisor) l0 c0 kk0).binds (ps := ["a", "b"]) fun _ _ _ _ _ _ us hl => match us, hl with | [_, _], _ => rfl⟩
  have h_ratio : FunG K mg "ratio" s_ratio ["above", "below"] := ⟨f1, _, fun_mk l1 c1 kk1, PySem.W.mg_of X G a1, (fun_mk (st := s_ratio) l1 c1 kk1).binds (ps := ["above", "below"]) fun _ _ _ _ _ _ us hl => match us, hl with | [_, _], _ => rfl⟩
  have h_parts : FunG K mg "parts" s_parts ["number"] := ⟨f2, _, fun_mk l2 c2 kk2, PySem.W.mg_of X G a2, (fun_mk (st := s_parts) l2 c2 kk2).binds (ps := ["number"]) fun _ _ _ _ _ _ us hl => match us, hl with | [_], _ => rfl⟩
  have h_add : FunG K mg "add" s_add ["one", "other"] := ⟨f3, _, fun_mk l3 c3 kk3, PySem.W.mg_of X G a3, (fun_mk (st := s_add) l3 c3 kk3).binds (ps := ["one", "other"]) fun _ _ _ _ _ _ us hl => match us, hl with | [_, _], _ => rfl⟩
  have h_minus : FunG K mg "minus" s_minus ["number"] := ⟨f4, _, fun_mk l4 c4 kk4, PySem.W.mg_of X G a4, (fun_mk (st := s_minus) l4 c4 kk4).binds (ps := ["number"]) fun _ _ _ _ _ _ us hl => match us, hl with | [_], _ => rfl⟩
  have h_sub : FunG K mg "sub" s_sub ["one", "other"] := ⟨f5, _, fun_mk l5 c5 kk5, PySem.W.mg_of X G a5, (fun_mk (st := s_sub) l5 c5 kk5).binds (ps := ["one", "other"]) fun _ _ _ _ _ _ us hl => match us, hl with | [_, _], _ => rfl⟩
  have h_mul : FunG K mg "mul" s_mul ["one", "other"] := ⟨f6, _, fun_mk l6 c6 kk6, PySem.W.mg_of X G a6, (fun_mk (st := s_mul) l6 c6 kk6).binds (ps := ["one", "other"]) fun _ _ _ _ _ _ us hl => match us, hl with | [_, _], _ => rfl⟩
  have h_sign : FunG K mg "sign" s_sign ["number"] := ⟨f7, _, fun_mk l7 c7 kk7, PySem.W.mg_of X G a7, (fun_mk (st := s_sign) l7 c7 kk7).binds (ps := ["number"]) fun _ _ _ _ _ _ us hl => match us, hl with | [_], _ => rfl⟩
  have h_less : FunG K mg "less" s_less ["one", "other"] := ⟨f8, _, fun_mk l8 c8 kk8, PySem.W.mg_of X G a8, (fun_mk (st := s_less) l8 c8 kk8).binds (ps := ["one", "other"]) fun _ _ _ _ _ _ us hl => match us, hl with | [_, _], _ => rfl⟩
  have h_is_number : FunG K mg "is_number" s_is_number ["value"] := ⟨f9, _, fun_mk l9 c9 kk9, PySem.W.mg_of X G a9, (fun_mk (st := s_is_number) l9 c9 kk9).binds (ps := ["value"]) fun _ _ _ _ _ _ us hl => match us, hl with | [_], _ => rfl⟩
  have h_counted : FunG K mg "counted" s_counted ["values", "bounds"] := ⟨f10, _, fun_mk l10 c10 kk10, PySem.W.mg_of X G a10, (fun_mk (st := s_counted) l10 c10 kk10).binds (ps := ["values", "bounds"]) fun _ _ _ _ _ _ us hl => match us, hl with | [_, _], _ => rfl⟩
  have h_rank_at : FunG K mg "rank_at" s_rank_at ["share", "many"] := ⟨f11, _, fun_mk l11 c11 kk11, PySem.W.mg_of X G a11, (fun_mk (st := s_rank_at) l11 c11 kk11).binds (ps := ["share", "many"]) fun _ _ _ _ _ _ us hl => match us, hl with | [_, _], _ => rfl⟩
  have h_share_bounds : FunG K mg "share_bounds" s_share_bounds ["share", "buckets"] := ⟨f12, _, fun_mk l12 c12 kk12, PySem.W.mg_of X G a12, (fun_mk (st := s_share_bounds) l12 c12 kk12).binds (ps := ["share", "buckets"]) fun _ _ _ _ _ _ us hl => match us, hl with | [_, _], _ => rfl⟩
  have h__law_draws : FunG K mg "_law_draws" s__law_draws ["script"] := ⟨f13, _, fun_mk l13 c13 kk13, PySem.W.mg_of X G a13, (fun_mk (st := s__law_draws) l13 c13 kk13).binds (ps := ["script"]) fun _ _ _ _ _ _ us hl => match us, hl with | [_], _ => rfl⟩
  have h__law_draw : FunG K mg "_law_draw" s__law_draw ["draws", "limit"] := ⟨f14, _, fun_mk l14 c14 kk14, PySem.W.mg_of X G a14, (fun_mk (st := s__law_draw) l14 c14 kk14).binds (ps := ["draws", "limit"]) fun _ _ _ _ _ _ us hl => match us, hl with | [_, _], _ => rfl⟩
  have h__law_same : FunG K mg "_law_same" s__law_same ["x", "due"] := ⟨f15, _, fun_mk l15 c15 kk15, PySem.W.mg_of X G a15, (fun_mk (st := s__law_same) l15 c15 kk15).binds (ps := ["x", "due"]) fun _ _ _ _ _ _ us hl => match us, hl with | [_, _], _ => rfl⟩
  have h__law_copy : FunG K mg "_law_copy" s__law_copy ["thing"] := ⟨f16, _, fun_mk l16 c16 kk16, PySem.W.mg_of X G a16, (fun_mk (st := s__law_copy) l16 c16 kk16).binds (ps := ["thing"]) fun _ _ _ _ _ _ us hl => match us, hl with | [_], _ => rfl⟩
  have h__law_exact : FunG K mg "_law_exact" s__law_exact ["above", "below"] := ⟨f17, _, fun_mk l17 c17 kk17, PySem.W.mg_of X G a17, (fun_mk (st := s__law_exact) l17 c17 kk17).binds (ps := ["above", "below"]) fun _ _ _ _ _ _ us hl => match us, hl with | [_, _], _ => rfl⟩
  have h__law_two : FunG K mg "_law_two" s__law_two ["number"] := ⟨f18, _, fun_mk l18 c18 kk18, PySem.W.mg_of X G a18, (fun_mk (st := s__law_two) l18 c18 kk18).binds (ps := ["number"]) fun _ _ _ _ _ _ us hl => match us, hl with | [_], _ => rfl⟩
  have h__law_mul : FunG K mg "_law_mul" s__law_mul ["one", "other"] := ⟨f19, _, fun_mk l19 c19 kk19, PySem.W.mg_of X G a19, (fun_mk (st := s__law_mul) l19 c19 kk19).binds (ps := ["one", "other"]) fun _ _ _ _ _ _ us hl => match us, hl with | [_, _], _ => rfl⟩
  have h__law_less : FunG K mg "_law_less" s__law_less ["one", "other"] := ⟨f20, _, fun_mk l20 c20 kk20, PySem.W.mg_of X G a20, (fun_mk (st := s__law_less) l20 c20 kk20).binds (ps := ["one", "other"]) fun _ _ _ _ _ _ us hl => match us, hl with | [_, _], _ => rfl⟩
  have h__law_number : FunG K mg "_law_number" s__law_number ["draws"] := ⟨f21, _, fun_mk l21 c21 kk21, PySem.W.mg_of X G a21, (fun_mk (st := s__law_number) l21 c21 kk21).binds (ps := ["draws"]) fun _ _ _ _ _ _ us hl => match us, hl with | [_], _ => rfl⟩
  have h__law_order : FunG K mg "_law_order" s__law_order ["values"] := ⟨f22, _, fun_mk l22 c22 kk22, PySem.W.mg_of X G a22, (fun_mk (st := s__law_order) l22 c22 kk22).binds (ps := ["values"]) fun _ _ _ _ _ _ us hl => match us, hl with | [_], _ => rfl⟩
  have h__law_told : FunG K mg "_law_told" s__law_told ["values", "bounds"] := ⟨f23, _, fun_mk l23 c23 kk23, PySem.W.mg_of X G a23, (fun_mk (st := s__law_told) l23 c23 kk23).binds (ps := ["values", "bounds"]) fun _ _ _ _ _ _ us hl => match us, hl with | [_, _], _ => rfl⟩
  have h_law : FunG K mg "law" s_law ["script"] := ⟨f24, _, fun_mk l24 c24 kk24, PySem.W.mg_of X G a24, (fun_mk (st := s_law) l24 c24 kk24).binds (ps := ["script"]) fun _ _ _ _ _ _ us hl => match us, hl with | [_], _ => rfl⟩
  have hW : mg "Wrong" = some (.ref C) := PySem.W.mg_of X G aW
  have qCat : Catch K mg catW (.ref C) := by
    have only : ∀ cls b, catW cls = some b → cls = "Wrong" ∧ b = true := fun cls b h => by
      unfold catW at h
      by_cases e : cls = "Wrong"
      · rw [if_pos e] at h
        exact ⟨e, (Option.some.inj h).symm⟩
      · rw [if_neg e] at h
        cases h
    refine ⟨fun cls C2 b h1 h2 => ?_, fun C2 ⟨cls, h1, h2⟩ => ?_⟩
    · obtain ⟨rfl, rfl⟩ := only cls b h1
      rw [hW] at h2
      cases h2
      exact exC
    · obtain ⟨rfl, _⟩ := only cls true h2
      rw [hW] at h1
      cases h1
      exact ⟨⟨g5, g6, be, hdC⟩, g1⟩
  have e := hfa.symm.trans (PySem.W.mg_of X G a24)
  cases e
  refine ⟨PySem.W.fnOf "law" "law" (defArgs s_law) (defBody s_law) (defScope s_law) .none kV24 dc24 pm24 an24 cd24 ct24, fun s v => .of_eq rfl, fun base _ _ => ?_⟩
  have eW : Err l.prog w K mg base 6 "Wrong" C := err_mk (PySem.W.mg_none_of X G z_super) hW lM dT dS cM ceM coM vM flM qM tM nM lW cW ceW coW vW flW qW tW suW suM m1 m2 ve be g1 g2 g3 g4 tC kC lC hbm op top
  have c := chain (P := l.prog) (w := w) (base := base) h_divisor h_ratio h_parts h_add h_minus h_sub h_mul h_sign h_less h_is_number h_counted h_rank_at h_share_bounds h__law_draws h__law_draw h__law_same h__law_copy h__law_exact h__law_two h__law_mul h__law_less h__law_number h__law_order h__law_told h_law (PySem.W.mg_none_of X G z_abs) (PySem.W.mg_none_of X G z_isinstance) (PySem.W.mg_none_of X G z_tuple) (PySem.W.mg_none_of X G z_len) (PySem.W.mg_none_of X G z_all) (PySem.W.mg_none_of X G z_int) (PySem.W.mg_none_of X G z_bool) (PySem.W.mg_none_of X G z_range) (PySem.W.mg_none_of X G z_list) (PySem.W.mg_none_of X G z_str) (PySem.W.mg_none_of X G z_dict) (PySem.W.mg_none_of X G z_max) eW qCat (fun_mk (st := s_law) l24 c24 kk24)
  refine FnOk.imp c fun vs H Q E ⟨a, ns, e1, hS, hq⟩ => ?_
  subst e1
  obtain ⟨A2, e2⟩ := law_ok ns
  refine ⟨rfl, H, [], [], [.scr (ns.map D.int)], ⟨fun b o h => h, rfl, List.nodup_nil, fun a ha => absurd ha (by simp), fun n c a h1 => absurd h1 (by simp)⟩, .cons (.scr hS (rpa_ints ns)) .nil, ?_⟩
  rw [e2]
  intro v H2 S2 μ2 n2 r2
  rw [rp_bl r2]
  exact hq H2
end K61

open PySem PySem.W PyProof.Rows
set_option maxHeartbeats 0 in
theorem PySem.Challenge.cw_meterhouse_k61_counts_up_to_bounds_holds : PySem.Challenge.rw_meterhouse_k61_counts_up_to_bounds.Holds := by
  w_on; o_law; k_head; (case hw => w_witness2)
  k_fill
  refine L2.walk_of (l := PySem.Challenge.rw_meterhouse_k61_counts_up_to_bounds) (n := 63) (k := 18) (x := "script") (CX := fun w => L2.CX PySem.Challenge.rw_meterhouse_k61_counts_up_to_bounds.prog w) (sp := fun w => K61.spLaw _) rfl (by decide) rfl ⟨rfl, by decide, by decide⟩ (fun w h Y => PySem.W.kIn_of Y) ?F (fun _ _ a ns _ _ hS => ⟨a, ns, rfl, hS, fun _ => rfl⟩) (fun _ _ _ _ _ h => by obtain ⟨_, _, _, _, _, _, _, _, _, _, _, _, z⟩ := h; exact z)
  case F =>
    intro w mg fa h KX G hmg
    refine' K61.all_mk KX G hmg ?a0 ?l0 ?c0 ?kk0 ?a1 ?l1 ?c1 ?kk1 ?a2 ?l2 ?c2 ?kk2 ?a3 ?l3 ?c3 ?kk3 ?a4 ?l4 ?c4 ?kk4 ?a5 ?l5 ?c5 ?kk5 ?a6 ?l6 ?c6 ?kk6 ?a7 ?l7 ?c7 ?kk7 ?a8 ?l8 ?c8 ?kk8 ?a9 ?l9 ?c9 ?kk9 ?a10 ?l10 ?c10 ?kk10 ?a11 ?l11 ?c11 ?kk11 ?a12 ?l12 ?c12 ?kk12 ?a13 ?l13 ?c13 ?kk13 ?a14 ?l14 ?c14 ?kk14 ?a15 ?l15 ?c15 ?kk15 ?a16 ?l16 ?c16 ?kk16 ?a17 ?l17 ?c17 ?kk17 ?a18 ?l18 ?c18 ?kk18 ?a19 ?l19 ?c19 ?kk19 ?a20 ?l20 ?c20 ?kk20 ?a21 ?l21 ?c21 ?kk21 ?a22 ?l22 ?c22 ?kk22 ?a23 ?l23 ?c23 ?kk23 ?a24 ?l24 ?c24 ?kk24 ?z_abs ?z_isinstance ?z_tuple ?z_len ?z_all ?z_int ?z_bool ?z_range ?z_list ?z_str ?z_dict ?z_max ?z_super ?aW ?lM ?dT ?dS ?cM ?ceM ?coM ?vM ?flM ?qM ?tM ?nM ?lW ?cW ?ceW ?coW ?vW ?flW ?qW ?tW ?suW ?suM ?m1 ?m2 ?ve ?be ?g1 ?g2 ?g3 ?g4 ?tC ?kC ?lC ?hbm ?op ?top ?g5 ?g6 ?hdC ?exC
    (case a0 => k_is)
    (case l0 => k_is)
    (case c0 => k_is)
    (case kk0 => k_is)
    (case a1 => k_is)
    (case l1 => k_is)
    (case c1 => k_is)
    (case kk1 => k_is)
    (case a2 => k_is)
    (case l2 => k_is)
    (case c2 => k_is)
    (case kk2 => k_is)
    (case a3 => k_is)
    (case l3 => k_is)
    (case c3 => k_is)
    (case kk3 => k_is)
    (case a4 => k_is)
    (case l4 => k_is)
    (case c4 => k_is)
    (case kk4 => k_is)
    (case a5 => k_is)
    (case l5 => k_is)
    (case c5 => k_is)
    (case kk5 => k_is)
    (case a6 => k_is)
    (case l6 => k_is)
    (case c6 => k_is)
    (case kk6 => k_is)
    (case a7 => k_is)
    (case l7 => k_is)
    (case c7 => k_is)
    (case kk7 => k_is)
    (case a8 => k_is)
    (case l8 => k_is)
    (case c8 => k_is)
    (case kk8 => k_is)
    (case a9 => k_is)
    (case l9 => k_is)
    (case c9 => k_is)
    (case kk9 => k_is)
    (case a10 => k_is)
    (case l10 => k_is)
    (case c10 => k_is)
    (case kk10 => k_is)
    (case a11 => k_is)
    (case l11 => k_is)
    (case c11 => k_is)
    (case kk11 => k_is)
    (case a12 => k_is)
    (case l12 => k_is)
    (case c12 => k_is)
    (case kk12 => k_is)
    (case a13 => k_is)
    (case l13 => k_is)
    (case c13 => k_is)
    (case kk13 => k_is)
    (case a14 => k_is)
    (case l14 => k_is)
    (case c14 => k_is)
    (case kk14 => k_is)
    (case a15 => k_is)
    (case l15 => k_is)
    (case c15 => k_is)
    (case kk15 => k_is)
    (case a16 => k_is)
    (case l16 => k_is)
    (case c16 => k_is)
    (case kk16 => k_is)
    (case a17 => k_is)
    (case l17 => k_is)
    (case c17 => k_is)
    (case kk17 => k_is)
    (case a18 => k_is)
    (case l18 => k_is)
    (case c18 => k_is)
    (case kk18 => k_is)
    (case a19 => k_is)
    (case l19 => k_is)
    (case c19 => k_is)
    (case kk19 => k_is)
    (case a20 => k_is)
    (case l20 => k_is)
    (case c20 => k_is)
    (case kk20 => k_is)
    (case a21 => k_is)
    (case l21 => k_is)
    (case c21 => k_is)
    (case kk21 => k_is)
    (case a22 => k_is)
    (case l22 => k_is)
    (case c22 => k_is)
    (case kk22 => k_is)
    (case a23 => k_is)
    (case l23 => k_is)
    (case c23 => k_is)
    (case kk23 => k_is)
    (case a24 => k_is)
    (case l24 => k_is)
    (case c24 => k_is)
    (case kk24 => k_is)
    (case z_abs => k_is)
    (case z_isinstance => k_is)
    (case z_tuple => k_is)
    (case z_len => k_is)
    (case z_all => k_is)
    (case z_int => k_is)
    (case z_bool => k_is)
    (case z_range => k_is)
    (case z_list => k_is)
    (case z_str => k_is)
    (case z_dict => k_is)
    (case z_max => k_is)
    (case z_super => k_is)
    (case aW => k_is)
    (case g3 => k_is)
    (case lW => k_is)
    (case suW => ks_is)
    (case lM => k_is)
    (case dT => k_is)
    (case dS => exact rfl)
    (case ceM => k_is)
    (case coM => k_is)
    (case vM => exact rfl)
    (case flM => first | rfl | decide +kernel)
    (case cM => k_is)
    (case qM => k_is)
    (case tM => k_is)
    (case nM => k_is)
    (case ceW => k_is)
    (case coW => k_is)
    (case vW => exact rfl)
    (case flW => first | rfl | decide +kernel)
    (case cW => k_is)
    (case qW => k_is)
    (case tW => k_is)
    (case suM => ks_is)
    (case m1 => k_is)
    (case m2 => k_is)
    (case ve => k_is)
    (case be => k_is)
    (case g1 => k_is)
    (case g2 => k_is)
    (case g4 => k_is)
    (case tC => k_is)
    (case kC => k_is)
    (case lC => k_is)
    (case hbm => exact rfl)
    (case op => k_is)
    (case top => first | rfl | decide +kernel)
    (case g5 => k_is)
    (case g6 => k_is)
    (case hdC => k_is)
    (case exC => first | k_is | kernel_rfl | rfl | decide +kernel)
