import PyProof.Rows.All
import HandS.ForMost
import HandS.TupAny
import HandS.Style
import HandS.IsInst
import HandS.Small
import HandS.Codes
import HandS.Conv
import HandS.SortInts
import HandS.TupLen
import KE.SortData
import PyProof.TupleOfSeq
import PyProof.CollectStr
import HandS.Text
import HandS.More
import HandS.Walk
import HandS.Zip
import KE.GoesEnum
import HandS.DictComp
import HandS.Words
import HandS.Remove
import HandS.Iter
import KE.KDictLaws
import HandS.Strs
import KE.KRevSl
import KE.KIndexOf
import KE.KDictSum
import HandS.Comp
import PySem.Challenge.RW_letterfair_k20_whole_chains_of_up_to_six
import HandS.Flow
set_option Elab.async false
set_option linter.all false
set_option maxRecDepth 100000
namespace PL
open PySem PySem.Spec PyProof.Rows L2

/-! ### data without the heap -/
inductive D where
  | v (x : V)
  | tup (fz : Bool) (ds : List D)
  | lst (ds : List D)
  | dic (ks : List Key) (ds : List D)
  | dit (ks : List (List Key)) (ds : List D)
  | hand

/-- a tuple, or one whose very object is known -/
def TupAt (H : Hp) : Bool → Addr → List V → Prop
  | false, a, xs => H a = some (.tup xs)
  | true, a, xs => ∃ o : Obj, o.dict = none ∧ H a = some (.frz o (.tup xs))

/-- where the law's hand stands: its list, its cells -/
structure Hd where
  p : Addr
  c : Addr
  ns : List Int

def HandOk (h : Hd) (H : Hp) : Prop :=
  h.p ≠ h.c ∧ (∀ n ∈ h.ns, 0 ≤ n) ∧ H h.c = some (.lst (h.ns.map V.int)) ∧
  ∃ i g m k : Int, 0 ≤ i ∧ 0 ≤ g ∧ 0 ≤ m ∧ 0 ≤ k ∧ H h.p = some (.lst [.ref h.c, .int i, .int g, .int m, .int k])

/-- what stays: all but the hand, which stays a hand -/
structure Keep (h : Hd) (H H' : Hp) : Prop where
  same : ∀ b x, H b = some x → b ≠ h.p → H' b = some x
  hand : HandOk h H → HandOk h H'
  tup : ∀ z b xs, TupAt H z b xs → TupAt H' z b xs

theorem Keep.refl {h : Hd} (H : Hp) : Keep h H H := ⟨fun _ _ e _ => e, fun e => e, fun _ _ _ e => e⟩
theorem Keep.trans {h : Hd} {H H1 H2 : Hp} (a : Keep h H H1) (b : Keep h H1 H2) : Keep h H H2 :=
  ⟨fun c x e n => b.same c x (a.same c x e n) n, fun e => b.hand (a.hand e), fun z c xs e => b.tup z c xs (a.tup z c xs e)⟩

theorem HandOk.same {h : Hd} {H H' : Hp} (k : HandOk h H) (e1 : H' h.p = H h.p) (e2 : H' h.c = H h.c) : HandOk h H' := by
  obtain ⟨a, b, c, d⟩ := k
  refine ⟨a, b, ?_, ?_⟩
  · rw [e2]; exact c
  · rw [e1]; exact d
theorem HandOk.there {h : Hd} {H : Hp} (k : HandOk h H) : (∃ x, H h.p = some (.lst x)) ∧ ∃ x, H h.c = some (.lst x) := by
  obtain ⟨_, _, c, i, g, m, k, _, _, _, _, d⟩ := k
  exact ⟨⟨_, d⟩, ⟨_, c⟩⟩

theorem TupAt.of {H H' : Hp} {a : Addr} {xs : List V} (e : ∀ o, H a = some o → (∃ ys, o = .tup ys) ∨ (∃ u ys, o = .frz u ys) → H' a = some o) : ∀ z, TupAt H z a xs → TupAt H' z a xs
  | false, q => e _ q (.inl ⟨_, rfl⟩)
  | true, ⟨o, d, q⟩ => ⟨o, d, e _ q (.inr ⟨_, _, rfl⟩)⟩
theorem TupAt.sq {K : PySem.W.Frag} {H : Hp} {a : Addr} {xs : List V} : ∀ {z}, TupAt H z a xs → SqT K H a xs
  | false, q => .inl (.inl q)
  | true, ⟨o, _, q⟩ => .inl (.inr ⟨o, q⟩)
/-- a new object -/
theorem Keep.new {h : Hd} {H : Hp} {a : Addr} {o : HO} (n : H a = none) : Keep h H (upd H a o) := by
  refine ⟨fun b x e _ => ?_, fun k => ?_, fun z b xs e => TupAt.of (fun u e _ => ?_) z e⟩
  · rw [upd_ne (ne_of_none e n)]; exact e
  · obtain ⟨⟨x, e1⟩, ⟨y, e2⟩⟩ := k.there
    exact k.same (by rw [upd_ne (ne_of_none e1 n)]) (by rw [upd_ne (ne_of_none e2 n)])
  · rw [upd_ne (ne_of_none e n)]; exact e
/-- an object of one's own (made behind G) is written -/
theorem Keep.write {h : Hd} {G H : Hp} {a : Addr} {o o' : HO} (k : Keep h G H) (hg : G a = none) (hp : G h.p ≠ none) (hc : G h.c ≠ none) (e : H a = some o') (mu : ∀ ys, o' ≠ .tup ys) (mf : ∀ u ys, o' ≠ .frz u ys) : Keep h G (upd H a o) := by
  have ne : ∀ b x, G b = some x → b ≠ a := fun b x q z => by subst z; rw [hg] at q; cases q
  have np : h.p ≠ a := fun z => hp (z ▸ hg)
  have nc : h.c ≠ a := fun z => hc (z ▸ hg)
  refine ⟨fun b x q n => ?_, fun q => ?_, fun z b xs q => TupAt.of (fun u r hu => ?_) z (k.tup z b xs q)⟩
  · rw [upd_ne (ne b x q)]; exact k.same b x q n
  · exact (k.hand q).same (upd_ne np) (upd_ne nc)
  · rw [upd_ne (fun z => ?_)]
    · exact r
    · subst z
      rw [e] at r
      cases r
      rcases hu with ⟨ys, hu⟩ | ⟨u', ys, hu⟩
      · exact mu _ hu
      · exact mf _ _ hu

/-! ### what a value is the picture of -/
section
variable (h : Hd) (H : Hp)
mutual
def Rep : D → List Addr → V → Prop
  | .v x, F, v => F = [] ∧ v = x
  | .tup z ds, F, v => ∃ a xs, v = .ref a ∧ TupAt H z a xs ∧ RepL ds F xs
  | .lst ds, F, v => ∃ a xs F1, v = .ref a ∧ F = a :: F1 ∧ H a = some (.lst xs) ∧ RepL ds F1 xs
  | .dic ks ds, F, v => ∃ a kvs F1, v = .ref a ∧ F = a :: F1 ∧ Rd H a (.dK kvs) ∧ (kvs.map (·.1) = ks ∧ ks.Nodup) ∧ RepL ds F1 (kvs.map (·.2))
  | .dit ks ds, F, v => ∃ a kvs F1, v = .ref a ∧ F = a :: F1 ∧ Rd H a (.dT kvs) ∧ (kvs.map (·.1) = ks ∧ ks.Nodup) ∧ RepL ds F1 (kvs.map (·.2))
  | .hand, F, v => F = [] ∧ v = .ref h.p
  termination_by structural d => d
def RepL : List D → List Addr → List V → Prop
  | [], F, xs => F = [] ∧ xs = []
  | d :: ds, F, xs => ∃ F1 F2 x ys, F = F1 ++ F2 ∧ xs = x :: ys ∧ Rep d F1 x ∧ RepL ds F2 ys
  termination_by structural ds => ds
end
end

mutual
/-- never changes -/
def D.imm : D → Bool
  | .v _ => true
  | .tup z ds => immL ds
  | .lst _ => false
  | .dic _ _ => false
  | .dit _ _ => false
  | .hand => true
  termination_by structural d => d
def immL : List D → Bool
  | [] => true
  | d :: ds => d.imm && immL ds
  termination_by structural ds => ds
end

section
variable {h : Hd} {H H' : Hp}
theorem Rd.mono {a : Addr} {u : HO} (e : ∀ x, H a = some x → H' a = some x) (r : Rd H a u) : Rd H' a u := by
  rcases r with r | ⟨o, r⟩
  · exact .inl (e _ r)
  · exact .inr ⟨o, e _ r⟩
mutual
theorem Rep.mono (ht : ∀ z b xs, TupAt H z b xs → TupAt H' z b xs) : ∀ (d : D) (F : List Addr) (v : V), (∀ a ∈ F, ∀ x, H a = some x → H' a = some x) → Rep h H d F v → Rep h H' d F v
  | .v x, F, v, _, r => r
  | .tup z ds, F, v, e, r => by
    obtain ⟨a, xs, e1, e2, r⟩ := r
    exact ⟨a, xs, e1, ht _ _ _ e2, RepL.mono ht ds F xs e r⟩
  | .lst ds, F, v, e, r => by
    obtain ⟨a, xs, F1, e1, e2, e3, r⟩ := r
    subst e2
    exact ⟨a, xs, F1, e1, rfl, e a (by simp) _ e3, RepL.mono ht ds F1 xs (fun b hb => e b (by simp [hb])) r⟩
  | .dic ks ds, F, v, e, r => by
    obtain ⟨a, xs, F1, e1, e2, e3, e4, r⟩ := r
    subst e2
    exact ⟨a, xs, F1, e1, rfl, Rd.mono (e a (by simp)) e3, e4, RepL.mono ht ds F1 _ (fun b hb => e b (by simp [hb])) r⟩
  | .dit ks ds, F, v, e, r => by
    obtain ⟨a, xs, F1, e1, e2, e3, e4, r⟩ := r
    subst e2
    exact ⟨a, xs, F1, e1, rfl, Rd.mono (e a (by simp)) e3, e4, RepL.mono ht ds F1 _ (fun b hb => e b (by simp [hb])) r⟩
  | .hand, F, v, _, r => r
  termination_by structural d => d
theorem RepL.mono (ht : ∀ z b xs, TupAt H z b xs → TupAt H' z b xs) : ∀ (ds : List D) (F : List Addr) (xs : List V), (∀ a ∈ F, ∀ x, H a = some x → H' a = some x) → RepL h H ds F xs → RepL h H' ds F xs
  | [], F, xs, _, r => r
  | d :: ds, F, xs, e, r => by
    obtain ⟨F1, F2, x, ys, e1, e2, r1, r2⟩ := r
    subst e1
    exact ⟨F1, F2, x, ys, rfl, e2, Rep.mono ht d F1 x (fun a ha => e a (by simp [ha])) r1, RepL.mono ht ds F2 ys (fun a ha => e a (by simp [ha])) r2⟩
  termination_by structural ds => ds
end
theorem Rd.some {a : Addr} {u : HO} (r : Rd H a u) : ∃ x, H a = some x := by
  rcases r with r | ⟨o, r⟩ <;> exact ⟨_, r⟩
mutual
theorem Rep.there : ∀ (d : D) (F : List Addr) (v : V), Rep h H d F v → ∀ a ∈ F, ∃ x, H a = some x
  | .v x, F, v, r => by rw [r.1]; intro a ha; cases ha
  | .tup z ds, F, v, r => by
    obtain ⟨a, xs, e1, e2, r⟩ := r
    exact RepL.there ds F xs r
  | .lst ds, F, v, r => by
    obtain ⟨a, xs, F1, e1, e2, e3, r⟩ := r
    subst e2
    intro b hb
    rcases List.mem_cons.mp hb with z | z
    · subst z; exact ⟨_, e3⟩
    · exact RepL.there ds F1 xs r b z
  | .dic ks ds, F, v, r => by
    obtain ⟨a, xs, F1, e1, e2, e3, e4, r⟩ := r
    subst e2
    intro b hb
    rcases List.mem_cons.mp hb with z | z
    · subst z; exact Rd.some e3
    · exact RepL.there ds F1 _ r b z
  | .dit ks ds, F, v, r => by
    obtain ⟨a, xs, F1, e1, e2, e3, e4, r⟩ := r
    subst e2
    intro b hb
    rcases List.mem_cons.mp hb with z | z
    · subst z; exact Rd.some e3
    · exact RepL.there ds F1 _ r b z
  | .hand, F, v, r => by rw [r.1]; intro a ha; cases ha
  termination_by structural d => d
theorem RepL.there : ∀ (ds : List D) (F : List Addr) (xs : List V), RepL h H ds F xs → ∀ a ∈ F, ∃ x, H a = some x
  | [], F, xs, r => by rw [r.1]; intro a ha; cases ha
  | d :: ds, F, xs, r => by
    obtain ⟨F1, F2, x, ys, e1, e2, r1, r2⟩ := r
    subst e1
    intro b hb
    rcases List.mem_append.mp hb with z | z
    · exact Rep.there d F1 x r1 b z
    · exact RepL.there ds F2 ys r2 b z
  termination_by structural ds => ds
end
mutual
theorem Rep.imm : ∀ (d : D) (F : List Addr) (v : V), d.imm = true → Rep h H d F v → F = []
  | .v x, F, v, _, r => r.1
  | .tup z ds, F, v, i, r => by
    obtain ⟨a, xs, e1, e2, r⟩ := r
    exact RepL.imm ds F xs i r
  | .lst ds, F, v, i, r => by cases i
  | .dic ks ds, F, v, i, r => by cases i
  | .dit ks ds, F, v, i, r => by cases i
  | .hand, F, v, _, r => r.1
  termination_by structural d => d
theorem RepL.imm : ∀ (ds : List D) (F : List Addr) (xs : List V), immL ds = true → RepL h H ds F xs → F = []
  | [], F, xs, _, r => r.1
  | d :: ds, F, xs, i, r => by
    obtain ⟨F1, F2, x, ys, e1, e2, r1, r2⟩ := r
    have i' : (d.imm && immL ds) = true := i
    rw [Bool.and_eq_true] at i'
    rw [e1, Rep.imm d F1 x i'.1 r1, RepL.imm ds F2 ys i'.2 r2]
    rfl
  termination_by structural ds => ds
end
theorem Rep.keep {d : D} {F : List Addr} {v : V} (k : Keep h H H') (r : Rep h H d F v) (np : ∀ a ∈ F, a ≠ h.p) : Rep h H' d F v :=
  Rep.mono k.tup d F v (fun a ha x e => k.same a x e (np a ha)) r
theorem RepL.keep {ds : List D} {F : List Addr} {xs : List V} (k : Keep h H H') (r : RepL h H ds F xs) (np : ∀ a ∈ F, a ≠ h.p) : RepL h H' ds F xs :=
  RepL.mono k.tup ds F xs (fun a ha x e => k.same a x e (np a ha)) r
theorem RepL.length : ∀ {ds : List D} {F : List Addr} {xs : List V}, RepL h H ds F xs → xs.length = ds.length
  | [], F, xs, r => by rw [r.2]; rfl
  | d :: ds, F, xs, r => by
    obtain ⟨F1, F2, x, ys, e1, e2, r1, r2⟩ := r
    rw [e2, List.length_cons, List.length_cons, RepL.length r2]
theorem RepL.app : ∀ {ds es : List D} {F G : List Addr} {xs ys : List V}, RepL h H ds F xs → RepL h H es G ys → RepL h H (ds ++ es) (F ++ G) (xs ++ ys)
  | [], es, F, G, xs, ys, r, q => by rw [r.1, r.2]; exact q
  | d :: ds, es, F, G, xs, ys, r, q => by
    obtain ⟨F1, F2, x, zs, e1, e2, r1, r2⟩ := r
    exact ⟨F1, F2 ++ G, x, zs ++ ys, by rw [e1, List.append_assoc], by rw [e2]; rfl, r1, RepL.app r2 q⟩
theorem RepL.one {d : D} {F : List Addr} {x : V} (r : Rep h H d F x) : RepL h H [d] F [x] := ⟨F, [], x, [], by simp, rfl, r, rfl, rfl⟩
theorem RepL.get : ∀ {ds : List D} {F : List Addr} {xs : List V} {i : Nat} {d : D}, RepL h H ds F xs → ds[i]? = some d → ∃ F1 x, xs[i]? = some x ∧ Rep h H d F1 x ∧ F1.Sublist F
  | [], F, xs, i, d, r, e => by simp at e
  | d0 :: ds, F, xs, 0, d, r, e => by
    obtain ⟨F1, F2, x, ys, e1, e2, r1, r2⟩ := r
    have : d0 = d := by simpa using e
    subst this
    exact ⟨F1, x, by rw [e2]; rfl, r1, by rw [e1]; exact List.sublist_append_left _ _⟩
  | d0 :: ds, F, xs, i + 1, d, r, e => by
    obtain ⟨F1, F2, x, ys, e1, e2, r1, r2⟩ := r
    obtain ⟨F3, y, e3, r3, s⟩ := RepL.get (i := i) (d := d) r2 (by simpa using e)
    exact ⟨F3, y, by rw [e2]; simpa using e3, r3, by rw [e1]; exact s.trans (List.sublist_append_right _ _)⟩
theorem RepL.get' : ∀ {ds : List D} {F : List Addr} {xs : List V} {i : Nat} {x : V}, RepL h H ds F xs → xs[i]? = some x → ∃ F1 d, ds[i]? = some d ∧ Rep h H d F1 x ∧ F1.Sublist F := by
  intro ds F xs i x r e
  have l := r.length
  have hi : i < ds.length := by
    have := (List.getElem?_eq_some_iff.mp e).1
    omega
  obtain ⟨F1, y, e1, r1, s⟩ := RepL.get r (List.getElem?_eq_getElem hi)
  rw [e] at e1
  cases e1
  exact ⟨F1, _, List.getElem?_eq_getElem hi, r1, s⟩
end

/-! ### the slots -/
inductive Sl where
  | no
  | own (d : D)
  | bor (d : D)
  | lck (v : V) (d : D)

def NFrz (H : Hp) (a : Addr) : Prop := ∀ o u, H a ≠ some (.frz o u)

/-- what a def found (g), what loops hold fast (q) -/
structure Gd where
  g : Hp
  q : Hp
section
variable (h : Hd) (G : Gd) (H : Hp)
def SlOk (F : List Addr) (x : Option V) : Sl → Prop
  | .no => F = []
  | .own d => ∃ v, x = some v ∧ Rep h H d F v ∧ ∀ a ∈ F, NFrz H a
  | .bor d => F = [] ∧ ∃ v F1, x = some v ∧ Rep h H d F1 v ∧ ∀ a ∈ F1, G.g a ≠ none ∧ a ≠ h.p
  | .lck v d => F = [] ∧ x = some v ∧ ∃ F1, Rep h H d F1 v ∧ ∀ a ∈ F1, G.q a ≠ none ∧ a ≠ h.p
structure En (σ : L2.St) (ρ : List Sl) (Fs : Nat → List Addr) : Prop where
  keep : Keep h G.g H
  hold : ∀ b x, G.q b = some x → H b = some x
  hand : HandOk h H
  gp : G.g h.p ≠ none
  gc : G.g h.c ≠ none
  qp : G.q h.p = none
  len : σ.length = ρ.length
  rep : ∀ i s, ρ[i]? = some s → ∃ x, σ[i]? = some x ∧ SlOk h G H (Fs i) x s
  out : ∀ i, ρ.length ≤ i → Fs i = []
  dis : ∀ i j a, a ∈ Fs i → a ∈ Fs j → i = j
  nod : ∀ i, (Fs i).Nodup
  own : ∀ i a, a ∈ Fs i → G.g a = none ∧ G.q a = none
end

abbrev Rho := List Sl
abbrev WE := Rho → (D → Prop) → Prop
abbrev WT := Rho → (Bool → Prop) → Prop
abbrev WA := Rho → (List D → Prop) → Prop
structure WEnds where
  nx : Rho → Prop
  rt : D → Prop
  bk : Rho → Prop := fun _ => False
  ct : Rho → Prop := fun _ => False
abbrev WS := WEnds → Rho → Prop

section
variable (h : Hd)
/-- read only: the value may be (part of) what a slot holds -/
def tP (f : WE) : TE := fun σ H Q => ∃ G ρ Fs R, En h G H σ ρ Fs ∧ f ρ R ∧ ∀ d, R d → ∀ v H' F, Keep h H H' → Rep h H' d F v → (∀ a ∈ F, a ≠ h.p) → Q v H'
/-- the value is one's own: new objects alone -/
def tF (f : WE) : TE := fun σ H Q => ∃ G ρ Fs R, En h G H σ ρ Fs ∧ f ρ R ∧ ∀ d, R d → ∀ v H' F, Keep h H H' → Rep h H' d F v → (∀ a ∈ F, H a = none ∧ NFrz H' a) → F.Nodup → Q v H'
def tT (f : WT) : TT := fun σ H Q => ∃ G ρ Fs R, En h G H σ ρ Fs ∧ f ρ R ∧ ∀ b, R b → ∀ H', Keep h H H' → Q b H'
def tAP (f : WA) : TA := fun σ H Q => ∃ G ρ Fs R, En h G H σ ρ Fs ∧ f ρ R ∧ ∀ ds, R ds → ∀ vs H' F, Keep h H H' → RepL h H' ds F vs → (∀ a ∈ F, a ≠ h.p) → Q vs H'
def tAF (f : WA) : TA := fun σ H Q => ∃ G ρ Fs R, En h G H σ ρ Fs ∧ f ρ R ∧ ∀ ds, R ds → ∀ vs H' F, Keep h H H' → RepL h H' ds F vs → (∀ a ∈ F, H a = none ∧ NFrz H' a) → F.Nodup → Q vs H'
def tS (f : WS) : TS := fun D σ H => ∃ G ρ Fs W, En h G H σ ρ Fs ∧ f W ρ ∧
  (∀ ρ', W.nx ρ' → ∀ σ' H' Fs', En h G H' σ' ρ' Fs' → D.nx σ' H') ∧
  (∀ ρ', W.bk ρ' → ∀ σ' H' Fs', En h G H' σ' ρ' Fs' → D.bk σ' H') ∧
  (∀ ρ', W.ct ρ' → ∀ σ' H' Fs', En h G H' σ' ρ' Fs' → D.ct σ' H') ∧
  (∀ d, W.rt d → ∀ v H' F, Keep h G.g H' → Rep h H' d F v → (∀ a ∈ F, G.g a = none ∧ NFrz H' a) → F.Nodup → D.rt v H')
/-- a def's promise -/
def spP (g : List D → (D → Prop) → Prop) : Sp := fun vs H Q _ => ∃ ds Fs R, HandOk h H ∧ RepL h H ds Fs vs ∧ (∀ a ∈ Fs, a ≠ h.p) ∧ g ds R ∧
  ∀ d, R d → ∀ v H' F, Keep h H H' → Rep h H' d F v → (∀ a ∈ F, H a = none ∧ NFrz H' a) → F.Nodup → Q v H'
end

/-! ### moving among readings -/
section
variable {X : Cx} {e : Expr} {es : List Expr} {st : Stmt} {sts : List Stmt} {h : Hd}
theorem pe_imp {t t' : TE} (p : PE X e t) (i : ∀ σ H Q, t' σ H Q → t σ H Q) : PE X e t' := ⟨fun pins s σ H Q I w => p.run pins s σ H Q I (i σ H Q w)⟩
theorem pt_imp {t t' : TT} (p : PT X e t) (i : ∀ σ H Q, t' σ H Q → t σ H Q) : PT X e t' := ⟨fun pins s σ H Q I w => p.run pins s σ H Q I (i σ H Q w)⟩
theorem pw_imp {t t' : TT} (p : PW X e t) (i : ∀ σ H Q, t' σ H Q → t σ H Q) : PW X e t' := ⟨fun wh pins s σ H Q I w => p.run wh pins s σ H Q I (i σ H Q w)⟩
theorem pa_imp {t t' : TA} (p : PA X es t) (i : ∀ σ H Q, t' σ H Q → t σ H Q) : PA X es t' := ⟨fun pos pins s σ H Q I w => p.run pos pins s σ H Q I (i σ H Q w)⟩
theorem ps_imp {t t' : TS} (p : PS X st t) (i : ∀ D σ H, t' D σ H → t D σ H) : PS X st t' := ⟨fun pins s σ H D I w => p.run pins s σ H D I (i D σ H w)⟩
theorem pss_imp {t t' : TS} (p : PSs X sts t) (i : ∀ D σ H, t' D σ H → t D σ H) : PSs X sts t' := ⟨fun pins s σ H D I w => p.run pins s σ H D I (i D σ H w)⟩

section
variable {G : Gd} {H H' : Hp} {σ : L2.St} {ρ : Rho} {Fs : Nat → List Addr}
theorem En.np (E : En h G H σ ρ Fs) {i : Nat} {a : Addr} (ha : a ∈ Fs i) : a ≠ h.p := fun z => E.gp (z ▸ (E.own i a ha).1)
theorem SlOk.keep {F : List Addr} {x : Option V} {s : Sl} (k : Keep h H H') (np : ∀ a ∈ F, a ≠ h.p) (r : SlOk h G H F x s) : SlOk h G H' F x s := by
  cases s with
  | no => exact r
  | own d =>
    obtain ⟨v, e, r, nf⟩ := r
    refine ⟨v, e, r.keep k np, fun a ha o u z => ?_⟩
    obtain ⟨y, hy⟩ := Rep.there d F v r a ha
    have := k.same a y hy (np a ha)
    rw [z] at this; cases this
    exact nf a ha _ _ hy
  | bor d =>
    obtain ⟨e, v, F1, ex, r, q⟩ := r
    exact ⟨e, v, F1, ex, r.keep k fun a ha => (q a ha).2, q⟩
  | lck v d =>
    obtain ⟨e, ex, F1, r, q⟩ := r
    exact ⟨e, ex, F1, r.keep k fun a ha => (q a ha).2, q⟩
/-- behind an expression -/
theorem En.after (E : En h G H σ ρ Fs) (k : Keep h H H') : En h G H' σ ρ Fs :=
  ⟨E.keep.trans k, fun b x e => k.same b x (E.hold b x e) (fun z => (by rw [z, E.qp] at e; cases e)), k.hand E.hand, E.gp, E.gc, E.qp, E.len, fun i s e => let ⟨x, ex, r⟩ := E.rep i s e; ⟨x, ex, r.keep k fun _ ha => E.np ha⟩, E.out, E.dis, E.nod, E.own⟩
end
/-- new objects are no hand -/
theorem fresh_np {G : Gd} {H : Hp} {σ : L2.St} {ρ : Rho} {Fs : Nat → List Addr} (E : En h G H σ ρ Fs) {a : Addr} (n : H a = none) : a ≠ h.p := fun z => by
  obtain ⟨⟨x, e⟩, _⟩ := E.hand.there
  rw [← z, n] at e; cases e
theorem pf_p {f : WE} (p : PE X e (tF h f)) : PE X e (tP h f) := pe_imp p fun σ H Q w => by
  obtain ⟨G, ρ, Fs, R, E, w, c⟩ := w
  exact ⟨G, ρ, Fs, R, E, w, fun d r v H' F k q fr nd => c d r v H' F k q fun a ha => fresh_np E (fr a ha).1⟩
def wImm (f : WE) : WE := fun ρ R => f ρ fun d => d.imm = true ∧ R d
theorem pp_f {f : WE} (p : PE X e (tP h f)) : PE X e (tF h (wImm f)) := pe_imp p fun σ H Q w => by
  obtain ⟨G, ρ, Fs, R, E, w, c⟩ := w
  refine ⟨G, ρ, Fs, _, E, w, fun d r v H' F k q np => ?_⟩
  have e := Rep.imm d F v r.1 q
  subst e
  exact c d r.2 v H' [] k q (fun _ z => nomatch z) List.nodup_nil
theorem paf_p {f : WA} (p : PA X es (tAF h f)) : PA X es (tAP h f) := pa_imp p fun σ H Q w => by
  obtain ⟨G, ρ, Fs, R, E, w, c⟩ := w
  exact ⟨G, ρ, Fs, R, E, w, fun d r v H' F k q fr nd => c d r v H' F k q fun a ha => fresh_np E (fr a ha).1⟩
end

end PL

namespace PL
open PySem PySem.Spec PyProof.Rows L2

/-! ### what follows a value -/
def PostF (h : Hd) (H : Hp) (R : D → Prop) (Q : VK) : Prop := ∀ d, R d → ∀ v H' F, Keep h H H' → Rep h H' d F v → (∀ a ∈ F, H a = none ∧ NFrz H' a) → F.Nodup → Q v H'
def PostP (h : Hd) (H : Hp) (R : D → Prop) (Q : VK) : Prop := ∀ d, R d → ∀ v H' F, Keep h H H' → Rep h H' d F v → (∀ a ∈ F, a ≠ h.p) → Q v H'
section
variable {h : Hd} {H H1 : Hp} {R : D → Prop} {Q : VK}
theorem fresh_back (k : Keep h H H1) (ho : HandOk h H) {a : Addr} (n : H1 a = none) : H a = none := by
  cases e : H a with
  | none => rfl
  | some x =>
    by_cases z : a = h.p
    · subst z
      obtain ⟨⟨y, e1⟩, _⟩ := (k.hand ho).there
      rw [n] at e1; cases e1
    · rw [k.same a x e z] at n; cases n
theorem np_of (ho : HandOk h H) {a : Addr} (n : H a = none) : a ≠ h.p := fun z => by
  obtain ⟨⟨x, e⟩, _⟩ := ho.there
  rw [← z, n] at e; cases e
theorem PostF.back (k : Keep h H H1) (ho : HandOk h H) (p : PostF h H R Q) : PostF h H1 R Q := fun d r v H' F k' q fr nd =>
  p d r v H' F (k.trans k') q (fun a ha => ⟨fresh_back k ho (fr a ha).1, (fr a ha).2⟩) nd
theorem PostP.back (k : Keep h H H1) (p : PostP h H R Q) : PostP h H1 R Q := fun d r v H' F k' q np => p d r v H' F (k.trans k') q np
theorem PostF.atom (p : PostF h H R Q) {x : V} (r : R (.v x)) : Q x H := p _ r x H [] (Keep.refl H) ⟨rfl, rfl⟩ (fun _ z => nomatch z) List.nodup_nil
theorem PostP.atom (p : PostP h H R Q) {x : V} (r : R (.v x)) : Q x H := p _ r x H [] (Keep.refl H) ⟨rfl, rfl⟩ (fun _ z => nomatch z)
theorem PostP.here (p : PostP h H R Q) {d : D} {v : V} {F : List Addr} (r : R d) (q : Rep h H d F v) (np : ∀ a ∈ F, a ≠ h.p) : Q v H := p d r v H F (Keep.refl H) q np
/-- a new tuple of things at hand -/
theorem PostF.tup (p : PostF h H R Q) {ds : List D} {xs : List V} {F : List Addr} (r : R (.tup false ds)) (q : RepL h H ds F xs) (fr : F = []) (a : Addr) (n : H a = none) : Q (.ref a) (upd H a (.tup xs)) := by
  subst fr
  refine p _ r _ _ [] (Keep.new n) ⟨a, xs, rfl, upd_same, q.keep (Keep.new n) (fun _ z => nomatch z)⟩ (fun _ z => nomatch z) List.nodup_nil
end

/-! ### readings of readings -/
def wVar (i : Nat) : WE := fun ρ R => match ρ[i]? with
  | some (.own d) => R d
  | some (.bor d) => R d
  | some (.lck _ d) => R d
  | _ => False
def wC (x : V) : WE := fun _ R => R (.v x)
def wB (k : D → D → (D → Prop) → Prop) (fa fb : WE) : WE := fun ρ R => fa ρ fun x => fb ρ fun y => k x y R
def wU (k : D → (D → Prop) → Prop) (fa : WE) : WE := fun ρ R => fa ρ fun x => k x R
def wNil : WA := fun _ R => R []
def wCons (f : WE) (g : WA) : WA := fun ρ R => f ρ fun d => g ρ fun ds => R (d :: ds)
def wL (k : List D → (D → Prop) → Prop) (g : WA) : WE := fun ρ R => g ρ fun ds => k ds R

section
variable {h : Hd} {H : Hp} {σ : L2.St} {Q : VK} {fa fb : WE} {ta tb : TE} {r : R2} {k : D → D → (D → Prop) → Prop}
/-- an operator of two values read -/
def SndF (h : Hd) (r : R2) (k : D → D → (D → Prop) → Prop) : Prop := ∀ H R Q dx dy Fx Fy x y, HandOk h H → k dx dy R → Rep h H dx Fx x → Rep h H dy Fy y → PostF h H R Q → r x y H Q
def SndP (h : Hd) (r : R2) (k : D → D → (D → Prop) → Prop) : Prop := ∀ H R Q dx dy Fx Fy x y, HandOk h H → k dx dy R → Rep h H dx Fx x → Rep h H dy Fy y → (∀ a ∈ Fx, a ≠ h.p) → PostP h H R Q → r x y H Q
theorem tOp_F (hs : SndF h r k) (w : tF h (wB k fa fb) σ H Q) : tOp r (tP h fa) (tP h fb) σ H Q := by
  obtain ⟨G, ρ, Fs, R, E, w, c⟩ := w
  refine ⟨G, ρ, Fs, _, E, w, fun dx wx x H1 Fx k1 qx nx => ?_⟩
  have E1 := E.after k1
  refine ⟨G, ρ, Fs, _, E1, wx, fun dy wy y H2 Fy k2 qy ny => ?_⟩
  have E2 := E1.after k2
  exact hs H2 R Q dx dy Fx Fy x y E2.hand wy (qx.keep k2 nx) qy (PostF.back (k1.trans k2) E.hand c)
theorem tOp_P (hs : SndP h r k) (w : tP h (wB k fa fb) σ H Q) : tOp r (tP h fa) (tP h fb) σ H Q := by
  obtain ⟨G, ρ, Fs, R, E, w, c⟩ := w
  refine ⟨G, ρ, Fs, _, E, w, fun dx wx x H1 Fx k1 qx nx => ?_⟩
  have E1 := E.after k1
  refine ⟨G, ρ, Fs, _, E1, wx, fun dy wy y H2 Fy k2 qy ny => ?_⟩
  have E2 := E1.after k2
  exact hs H2 R Q dx dy Fx Fy x y E2.hand wy (qx.keep k2 nx) qy nx (PostP.back (k1.trans k2) c)
def SndF1 (h : Hd) (r : V → Hp → VK → Prop) (k : D → (D → Prop) → Prop) : Prop := ∀ H R Q dx Fx x, HandOk h H → k dx R → Rep h H dx Fx x → PostF h H R Q → r x H Q
theorem tUn_F {r : V → Hp → VK → Prop} {k : D → (D → Prop) → Prop} (hs : SndF1 h r k) (w : tF h (wU k fa) σ H Q) : tUn r (tP h fa) σ H Q := by
  obtain ⟨G, ρ, Fs, R, E, w, c⟩ := w
  refine ⟨G, ρ, Fs, _, E, w, fun dx wx x H1 Fx k1 qx nx => ?_⟩
  exact hs H1 R Q dx Fx x (E.after k1).hand wx qx (PostF.back k1 E.hand c)
/-- a call of values read -/
def SndL (h : Hd) (r : List V → Hp → VK → Prop) (k : List D → (D → Prop) → Prop) : Prop := ∀ H R Q ds F vs, HandOk h H → k ds R → RepL h H ds F vs → (∀ a ∈ F, a ≠ h.p) → PostF h H R Q → r vs H Q
theorem tCB_F {r : List V → Hp → VK → Prop} {k : List D → (D → Prop) → Prop} {g : WA} (hs : SndL h r k) (w : tF h (wL k g) σ H Q) : tCB r (tAP h g) σ H Q := by
  obtain ⟨G, ρ, Fs, R, E, w, c⟩ := w
  exact ⟨G, ρ, Fs, _, E, w, fun ds wd vs H1 F k1 q np => hs H1 R Q ds F vs (E.after k1).hand wd q np (PostF.back k1 E.hand c)⟩
end

section
variable {X : Cx} {a b e : Expr} {es : List Expr} {pos : Pos} {h : Hd} {fa fb f : WE} {g : WA}
theorem pvar {i : Nat} (p : PE X e (tVar i)) : PE X e (tP h (wVar i)) := pe_imp p fun σ H Q w => by
  obtain ⟨G, ρ, Fs, R, E, w, c⟩ := w
  unfold wVar at w
  split at w
  · rename_i d hd
    obtain ⟨x, ex, v, ev, r, _⟩ := E.rep i _ hd
    subst ev
    exact ⟨v, ex, c d w v H _ (Keep.refl H) r fun a ha => E.np ha⟩
  · rename_i d hd
    obtain ⟨x, ex, eF, v, F1, ev, r, q⟩ := E.rep i _ hd
    subst ev
    exact ⟨v, ex, c d w v H _ (Keep.refl H) r fun a ha => (q a ha).2⟩
  · rename_i v d hd
    obtain ⟨x, ex, eF, ev, F1, r, q⟩ := E.rep i _ hd
    subst ev
    exact ⟨v, ex, c d w v H _ (Keep.refl H) r fun a ha => (q a ha).2⟩
  · exact w.elim
theorem pconst {x : V} (p : PE X e (tC x)) : PE X e (tF h (wC x)) := pe_imp p fun σ H Q w => by
  obtain ⟨G, ρ, Fs, R, E, w, c⟩ := w
  exact PostF.atom c w
theorem panil : PA X [] (tAF h wNil) := pa_imp pa_nil fun σ H Q w => by
  obtain ⟨G, ρ, Fs, R, E, w, c⟩ := w
  exact c [] w [] H [] (Keep.refl H) ⟨rfl, rfl⟩ (fun _ z => nomatch z) List.nodup_nil
theorem pa_cons_p (ha : PE X e (tP h f)) (hr : PA X es (tAP h g)) (hs : starEach (e :: es) X.env = (false, eval e X.env) :: starEach es X.env := by rfl) : PA X (e :: es) (tAP h (wCons f g)) := pa_imp (pa_cons ha hr hs) fun σ H Q w => by
  obtain ⟨G, ρ, Fs, R, E, w, c⟩ := w
  refine ⟨G, ρ, Fs, _, E, w, fun dx wx x H1 Fx k1 qx nx => ?_⟩
  have E1 := E.after k1
  refine ⟨G, ρ, Fs, _, E1, wx, fun ds wd vs H2 F k2 q np => ?_⟩
  refine c _ wd _ H2 (Fx ++ F) (k1.trans k2) ⟨Fx, F, x, vs, rfl, rfl, qx.keep k2 nx, q⟩ fun a ha => ?_
  rcases List.mem_append.mp ha with z | z
  · exact nx a z
  · exact np a z
theorem nf_keep {H H' : Hp} {a : Addr} (k : Keep h H H') (np : a ≠ h.p) (t : ∃ x, H a = some x) (n : NFrz H a) : NFrz H' a := fun o u z => by
  obtain ⟨x, e⟩ := t
  rw [k.same a x e np] at z; cases z
  exact n _ _ e
theorem pa_cons_f (ha : PE X e (tF h f)) (hr : PA X es (tAF h g)) (hs : starEach (e :: es) X.env = (false, eval e X.env) :: starEach es X.env := by rfl) : PA X (e :: es) (tAF h (wCons f g)) := pa_imp (pa_cons ha hr hs) fun σ H Q w => by
  obtain ⟨G, ρ, Fs, R, E, w, c⟩ := w
  refine ⟨G, ρ, Fs, _, E, w, fun dx wx x H1 Fx k1 qx fx nx => ?_⟩
  have E1 := E.after k1
  refine ⟨G, ρ, Fs, _, E1, wx, fun ds wd vs H2 F k2 q fr np => ?_⟩
  have hnp : ∀ a ∈ Fx, a ≠ h.p := fun a ha => np_of E.hand (fx a ha).1
  refine c _ wd _ H2 (Fx ++ F) (k1.trans k2) ⟨Fx, F, x, vs, rfl, rfl, qx.keep k2 hnp, q⟩ (fun a ha => ?_) ?_
  · rcases List.mem_append.mp ha with z | z
    · exact ⟨(fx a z).1, nf_keep k2 (hnp a z) (Rep.there _ _ _ qx a z) (fx a z).2⟩
    · exact ⟨fresh_back k1 E.hand (fr a z).1, (fr a z).2⟩
  · refine List.nodup_append.mpr ⟨nx, np, fun a ha b hb z => ?_⟩
    subst z
    obtain ⟨y, ey⟩ := Rep.there _ _ _ qx a ha
    rw [(fr a hb).1] at ey; cases ey
theorem pb {op : Operator} {r : R2} {k : D → D → (D → Prop) → Prop} (ho : OpR X (binaryOp op) r) (hs : SndF h r k) (ha : PE X a (tP h fa)) (hb : PE X b (tP h fb)) : PE X (.BinOp a op b pos) (tF h (wB k fa fb)) :=
  pe_imp (pe_op ho ha hb) fun _ _ _ w => tOp_F hs w
theorem pc {op : CmpOp} {r : R2} {k : D → D → (D → Prop) → Prop} (ho : OpR X (compareOp op) r) (hs : SndF h r k) (ha : PE X a (tP h fa)) (hb : PE X b (tP h fb)) (hm : behindInMarks op b = false) : PE X (.Compare a [op] [b] pos) (tF h (wB k fa fb)) :=
  pe_imp (pe_cmpR ho ha hb hm) fun _ _ _ w => tOp_F hs w
theorem pu {op : UnaryOp} {r : V → Hp → VK → Prop} {k : D → (D → Prop) → Prop} (ho : UnR X (unaryOp op) r) (hs : SndF1 h r k) (ha : PE X a (tP h fa)) : PE X (.UnaryOp op a pos) (tF h (wU k fa)) :=
  pe_imp (pe_un ho ha) fun _ _ _ w => tUn_F hs w
theorem pix {r : R2} {k : D → D → (D → Prop) → Prop} (hr : IxR X r) (hs : SndP h r k) (ha : PE X a (tP h fa)) (hb : PE X b (tP h fb)) (hp : PlainIx b) : PE X (.Subscript a b pos) (tP h (wB k fa fb)) :=
  pe_imp (pe_ix hr ha hb hp) fun _ _ _ w => tOp_P hs w
theorem pcb {x : Str} {p : Pos} {id : String} {r : List V → Hp → VK → Prop} {k : List D → (D → Prop) → Prop} (hc : CallR X (.builtin id) r) (hs : SndL h r k) (hg : Gl X x) (hm : X.mg x = none) (hv : bootBuiltins x = some (.builtin id)) (ha : PA X (e :: es) (tAP h g))
    (hn : x ≠ "__name__" := by decide) (hdb : (x == ("__debug__" : Str)) = false := by decide) (q1 : starEach (e :: es) X.env = (false, eval e X.env) :: starEach es X.env := by rfl) (q2 : (backTo pos (starEach es X.env)).any (·.1) = false := by rfl) : PE X (.Call (.Name x p) (e :: es) [] pos) (tF h (wL k g)) :=
  pe_imp (pe_callB hc hg hm hv ha hn hdb q1 q2) fun _ _ _ w => tCB_F hs w
theorem pct {x : Str} {p : Pos} {T : String} {r : List V → Hp → VK → Prop} {k : List D → (D → Prop) → Prop} (hc : CallR X (.type T) r) (hs : SndL h r k) (hg : Gl X x) (hm : X.mg x = none) (hv : bootBuiltins x = some (.type T)) (ha : PA X (e :: es) (tAP h g))
    (hn : x ≠ "__name__" := by decide) (hdb : (x == ("__debug__" : Str)) = false := by decide) (q1 : starEach (e :: es) X.env = (false, eval e X.env) :: starEach es X.env := by rfl) (q2 : (backTo pos (starEach es X.env)).any (·.1) = false := by rfl) : PE X (.Call (.Name x p) (e :: es) [] pos) (tF h (wL k g)) :=
  pe_imp (pe_callTy hc hg hm hv ha hn hdb q1 q2) fun _ _ _ w => tCB_F hs w
end
end PL

namespace PL
open PySem PySem.Spec PyProof.Rows L2

/-! ### as data -/
mutual
def D.py : D → PyData
  | .v .non => .none
  | .v (.bl b) => .bool b
  | .v (.int i) => .int i
  | .v (.str x) => .str x
  | .v _ => .dict []
  | .tup z ds => .tuple (pyL ds)
  | .lst ds => .list (pyL ds)
  | .dic _ _ => .dict []
  | .dit _ _ => .dict []
  | .hand => .dict []
  termination_by structural d => d
def pyL : List D → List PyData
  | [] => []
  | d :: ds => d.py :: pyL ds
  termination_by structural ds => ds
end
section
variable {h : Hd} {H : Hp} {K : PySem.W.Frag}
mutual
theorem Rep.dp : ∀ (d : D) (F : List Addr) (v : V), Rep h H d F v → d.py.canLay0 = true → Dp K H v d.py
  | .v .non, F, v, r, _ => by rw [r.2]; exact .non
  | .v (.bl b), F, v, r, _ => by rw [r.2]; exact .bl b
  | .v (.int i), F, v, r, _ => by rw [r.2]; exact .int i
  | .v (.str x), F, v, r, _ => by rw [r.2]; exact .str x
  | .v (.byt x), F, v, r, c => by simp [D.py, PyData.canLay0] at c
  | .v (.flt x), F, v, r, c => by simp [D.py, PyData.canLay0] at c
  | .v (.ref x), F, v, r, c => by simp [D.py, PyData.canLay0] at c
  | .v (.ty x), F, v, r, c => by simp [D.py, PyData.canLay0] at c
  | .tup z ds, F, v, r, c => by
    obtain ⟨a, xs, e1, e2, r⟩ := r
    rw [e1]
    exact .tup e2.sq (RepL.dp ds F xs r (by simpa [D.py, PyData.canLay0] using c))
  | .lst ds, F, v, r, c => by
    obtain ⟨a, xs, F1, e1, e2, e3, r⟩ := r
    rw [e1]
    exact .lst (.inl (.inl e3)) (RepL.dp ds F1 xs r (by simpa [D.py, PyData.canLay0] using c))
  | .dic ks ds, F, v, r, c => by simp [D.py, PyData.canLay0] at c
  | .dit ks ds, F, v, r, c => by simp [D.py, PyData.canLay0] at c
  | .hand, F, v, r, c => by simp [D.py, PyData.canLay0] at c
  termination_by structural d => d
theorem RepL.dp : ∀ (ds : List D) (F : List Addr) (xs : List V), RepL h H ds F xs → PyData.canLayAll0 (pyL ds) = true → DpAll K H xs (pyL ds)
  | [], F, xs, r, _ => by rw [r.2]; exact .nil
  | d :: ds, F, xs, r, c => by
    obtain ⟨F1, F2, x, ys, e1, e2, r1, r2⟩ := r
    have c' : (d.py.canLay0 && PyData.canLayAll0 (pyL ds)) = true := by simpa [pyL, PyData.canLayAll0] using c
    rw [Bool.and_eq_true] at c'
    rw [e2]
    exact .cons (Rep.dp d F1 x r1 c'.1) (RepL.dp ds F2 ys r2 c'.2)
  termination_by structural ds => ds
end
end

/-! ### the operators by data -/
def kAdd : D → D → (D → Prop) → Prop
  | .v (.int i), .v (.int j), R => R (.v (.int (i + j)))
  | .v (.str i), .v (.str j), R => i.length + j.length ≤ sizeLine ∧ R (.v (.str (i ++ j)))
  | .tup false a, .tup false b, R => immL a = true ∧ immL b = true ∧ a.length + b.length ≤ sizeLine ∧ R (.tup false (a ++ b))
  | .lst a, .lst b, R => immL a = true ∧ immL b = true ∧ a.length + b.length ≤ sizeLine ∧ R (.lst (a ++ b))
  | _, _, _ => False
def kSub : D → D → (D → Prop) → Prop
  | .v (.int i), .v (.int j), R => R (.v (.int (i - j)))
  | _, _, _ => False
def kMul : D → D → (D → Prop) → Prop
  | .v (.int i), .v (.int j), R => CMul i j ∧ R (.v (.int (i * j)))
  | .lst a, .v (.int k), R => immL a = true ∧ -(2 ^ 63) ≤ k ∧ k < 2 ^ 63 ∧ a.length * k.toNat ≤ sizeLine ∧ R (.lst (List.replicate k.toNat a).flatten)
  | _, _, _ => False
def kFdiv : D → D → (D → Prop) → Prop
  | .v (.int i), .v (.int j), R => CDiv i j ∧ R (.v (.int (i / j)))
  | _, _, _ => False
def kMod : D → D → (D → Prop) → Prop
  | .v (.int i), .v (.int j), R => 0 < j ∧ R (.v (.int (i % j)))
  | _, _, _ => False
def kNeg : D → (D → Prop) → Prop
  | .v (.int i), R => R (.v (.int (-i)))
  | _, _ => False
def kNot : D → (D → Prop) → Prop
  | .v (.bl b), R => R (.v (.bl (!b)))
  | _, _ => False
def kEq (x y : D) (R : D → Prop) : Prop := SeqAt.shaped x.py = true ∧ SeqAt.shaped y.py = true ∧ R (.v (.bl (PyData.eqv x.py y.py)))
def kNe (x y : D) (R : D → Prop) : Prop := SeqAt.shaped x.py = true ∧ SeqAt.shaped y.py = true ∧ R (.v (.bl (!PyData.eqv x.py y.py)))
def strLt (i j : Str) : Bool := decide (i.cps.toList < j.cps.toList)
def kLt : D → D → (D → Prop) → Prop
  | .v (.int i), .v (.int j), R => R (.v (.bl (decide (i < j))))
  | .v (.str i), .v (.str j), R => R (.v (.bl (strLt i j)))
  | _, _, _ => False
def kLe : D → D → (D → Prop) → Prop
  | .v (.int i), .v (.int j), R => R (.v (.bl (decide (i ≤ j))))
  | .v (.str i), .v (.str j), R => R (.v (.bl (!strLt j i)))
  | _, _, _ => False
def kGt : D → D → (D → Prop) → Prop
  | .v (.int i), .v (.int j), R => R (.v (.bl (decide (j < i))))
  | .v (.str i), .v (.str j), R => R (.v (.bl (strLt j i)))
  | _, _, _ => False
def kGe : D → D → (D → Prop) → Prop
  | .v (.int i), .v (.int j), R => R (.v (.bl (decide (j ≤ i))))
  | .v (.str i), .v (.str j), R => R (.v (.bl (!strLt i j)))
  | _, _, _ => False
def isNone : D → Bool
  | .v .non => true
  | _ => false
def kIs : D → D → (D → Prop) → Prop
  | x, .v .non, R => R (.v (.bl (isNone x)))
  | .v (.bl a), .v (.bl b), R => R (.v (.bl (decide (a = b))))
  | _, _, _ => False
def kIsNot : D → D → (D → Prop) → Prop
  | x, .v .non, R => R (.v (.bl (!isNone x)))
  | .v (.bl a), .v (.bl b), R => R (.v (.bl (!decide (a = b))))
  | _, _, _ => False

section
variable {X : Cx} {h : Hd}
abbrev rAdd4 (K : PySem.W.Frag) : R2 := fun x y H Q => rI0 (fun i j => .int (i + j)) x y H Q ∨ (∃ i j, x = .str i ∧ y = .str j ∧ i.length + j.length ≤ sizeLine ∧ Q (.str (i ++ j)) H) ∨ rCatA K x y H Q ∨ rCat x y H Q
theorem o_add : OpR X (binaryOp .Add) (rAdd4 X.K) := op_add.or (op_add_str.or (op_catA.or op_cat))
theorem immL_app : ∀ {a b : List D}, immL a = true → immL b = true → immL (a ++ b) = true
  | [], b, _, hb => hb
  | d :: a, b, ha, hb => by
    have h' : (d.imm && immL a) = true := ha
    rw [Bool.and_eq_true] at h'
    show (d.imm && immL (a ++ b)) = true
    rw [h'.1, immL_app h'.2 hb]; rfl
theorem PostF.lst {H : Hp} {R : D → Prop} {Q : VK} (p : PostF h H R Q) {ds : List D} {xs : List V} (r : R (.lst ds)) (q : RepL h H ds [] xs) (a : Addr) (n : H a = none) : Q (.ref a) (upd H a (.lst xs)) := by
  refine p _ r _ _ [a] (Keep.new n) ⟨a, xs, [], rfl, rfl, upd_same, q.keep (Keep.new n) (fun _ z => nomatch z)⟩ (fun b hb => ?_) (by simp)
  have e : b = a := by simpa using hb
  subst e
  exact ⟨n, fun o u z => by rw [upd_same] at z; cases z⟩
theorem s_add {K : PySem.W.Frag} : SndF h (rAdd4 K) kAdd := by
  intro H R Q dx dy Fx Fy x y ho w qx qy c
  unfold kAdd at w
  split at w
  · exact .inl ⟨_, _, qx.2, qy.2, c.atom w⟩
  · exact .inr (.inl ⟨_, _, qx.2, qy.2, w.1, c.atom w.2⟩)
  · rename_i a b
    obtain ⟨w1, w2, w3, w4⟩ := w
    obtain ⟨p, xs, ex, e1, r1⟩ := qx
    obtain ⟨q, ys, ey, e2, r2⟩ := qy
    have f1 := RepL.imm _ _ _ w1 r1
    have f2 := RepL.imm _ _ _ w2 r2
    subst f1 f2
    refine .inr (.inr (.inl ⟨p, q, xs, ys, ex, ey, .inl (.inl e1), .inl (.inl e2), by rw [r1.length, r2.length]; exact w3, fun z => ?_, fun _ z => ?_, fun _ _ t n => ?_⟩))
    · subst z
      have : a = [] := List.length_eq_zero_iff.mp r1.length.symm
      subst this
      exact c _ w4 _ H [] (Keep.refl H) ⟨q, ys, rfl, e2, r2⟩ (fun _ z => nomatch z) List.nodup_nil
    · subst z
      have : b = [] := List.length_eq_zero_iff.mp r2.length.symm
      subst this
      rw [List.append_nil] at w4
      exact c _ w4 _ H [] (Keep.refl H) ⟨p, xs, rfl, e1, r1⟩ (fun _ z => nomatch z) List.nodup_nil
    · exact c.tup w4 (r1.app r2) rfl t n
  · rename_i a b
    obtain ⟨w1, w2, w3, w4⟩ := w
    obtain ⟨p, xs, F1, ex, _, e1, r1⟩ := qx
    obtain ⟨q, ys, F2, ey, _, e2, r2⟩ := qy
    have f1 := RepL.imm _ _ _ w1 r1
    have f2 := RepL.imm _ _ _ w2 r2
    subst f1 f2
    exact .inr (.inr (.inr ⟨p, q, xs, ys, ex, ey, e1, e2, by rw [r1.length, r2.length]; exact w3, fun t n => c.lst w4 (r1.app r2) t n⟩))
  · exact w.elim
theorem s_sub : SndF h (rI0 fun i j => .int (i - j)) kSub := by
  intro H R Q dx dy Fx Fy x y ho w qx qy c
  unfold kSub at w
  split at w
  · exact ⟨_, _, qx.2, qy.2, c.atom w⟩
  · exact w.elim
theorem immL_rep {a : List D} (ha : immL a = true) : ∀ n : Nat, immL (List.replicate n a).flatten = true
  | 0 => rfl
  | n + 1 => by rw [List.replicate_succ, List.flatten_cons]; exact immL_app ha (immL_rep ha n)
theorem repL_rep {H : Hp} {a : List D} {xs : List V} (r : RepL h H a [] xs) : ∀ n : Nat, RepL h H (List.replicate n a).flatten [] (List.replicate n xs).flatten
  | 0 => ⟨rfl, rfl⟩
  | n + 1 => by rw [List.replicate_succ, List.flatten_cons, List.replicate_succ, List.flatten_cons]; exact r.app (repL_rep r n)
theorem s_mul : SndF h (fun x y H Q => rI CMul (fun i j => .int (i * j)) x y H Q ∨ rRep x y H Q) kMul := by
  intro H R Q dx dy Fx Fy x y ho w qx qy c
  unfold kMul at w
  split at w
  · exact .inl ⟨_, _, qx.2, qy.2, w.1, c.atom w.2⟩
  · obtain ⟨w1, w2, w3, w4, w5⟩ := w
    obtain ⟨p, xs, F1, ex, _, e1, r1⟩ := qx
    have f1 := RepL.imm _ _ _ w1 r1
    subst f1
    exact .inr ⟨p, _, xs, ex, qy.2, e1, w2, w3, by rw [r1.length]; exact w4, fun t n => c.lst w5 (repL_rep r1 _) t n⟩
  · exact w.elim
theorem o_mul : OpR X (binaryOp .Mult) (fun x y H Q => rI CMul (fun i j => .int (i * j)) x y H Q ∨ rRep x y H Q) := op_mul.or op_rep
theorem s_fdiv : SndF h (rI CDiv fun i j => .int (i / j)) kFdiv := by
  intro H R Q dx dy Fx Fy x y ho w qx qy c
  unfold kFdiv at w
  split at w
  · exact ⟨_, _, qx.2, qy.2, w.1, c.atom w.2⟩
  · exact w.elim
theorem s_mod : SndF h (rI (fun _ j => 0 < j) fun i j => .int (i % j)) kMod := by
  intro H R Q dx dy Fx Fy x y ho w qx qy c
  unfold kMod at w
  split at w
  · exact ⟨_, _, qx.2, qy.2, w.1, c.atom w.2⟩
  · exact w.elim
theorem s_neg : SndF1 h (rU fun i => .int (-i)) kNeg := by
  intro H R Q dx Fx x ho w qx c
  unfold kNeg at w
  split at w
  · exact ⟨_, qx.2, c.atom w⟩
  · exact w.elim
theorem s_eq {K : PySem.W.Frag} : SndF h (rEqD K) kEq := by
  intro H R Q dx dy Fx Fy x y ho w qx qy c
  exact ⟨_, _, Rep.dp dx Fx x qx (SeqAt.canLay_of_shaped w.1), Rep.dp dy Fy y qy (SeqAt.canLay_of_shaped w.2.1), w.1, w.2.1, c.atom w.2.2⟩
theorem s_ne {K : PySem.W.Frag} : SndF h (rNeD K) kNe := by
  intro H R Q dx dy Fx Fy x y ho w qx qy c
  exact ⟨_, _, Rep.dp dx Fx x qx (SeqAt.canLay_of_shaped w.1), Rep.dp dy Fy y qy (SeqAt.canLay_of_shaped w.2.1), w.1, w.2.1, c.atom w.2.2⟩
abbrev rCmp (p : Int → Int → Bool) (q : Str → Str → Bool) : R2 := fun x y H Q => rI0 (fun i j => .bl (p i j)) x y H Q ∨ ∃ i j, x = .str i ∧ y = .str j ∧ Q (.bl (q i j)) H
theorem o_lt : OpR X (compareOp .Lt) (rCmp (fun i j => decide (i < j)) strLt) := op_lt.or op_lt_str
theorem o_le : OpR X (compareOp .LtE) (rCmp (fun i j => decide (i ≤ j)) fun i j => !strLt j i) := op_le.or op_le_str
theorem o_gt : OpR X (compareOp .Gt) (rCmp (fun i j => decide (j < i)) fun i j => strLt j i) := op_gt.or op_gt_str
theorem o_ge : OpR X (compareOp .GtE) (rCmp (fun i j => decide (j ≤ i)) fun i j => !strLt i j) := op_ge.or op_ge_str
theorem s_lt : SndF h (rCmp (fun i j => decide (i < j)) strLt) kLt := by
  intro H R Q dx dy Fx Fy x y ho w qx qy c
  unfold kLt at w
  split at w
  · exact .inl ⟨_, _, qx.2, qy.2, c.atom w⟩
  · exact .inr ⟨_, _, qx.2, qy.2, c.atom w⟩
  · exact w.elim
theorem s_le : SndF h (rCmp (fun i j => decide (i ≤ j)) fun i j => !strLt j i) kLe := by
  intro H R Q dx dy Fx Fy x y ho w qx qy c
  unfold kLe at w
  split at w
  · exact .inl ⟨_, _, qx.2, qy.2, c.atom w⟩
  · exact .inr ⟨_, _, qx.2, qy.2, c.atom w⟩
  · exact w.elim
theorem s_gt : SndF h (rCmp (fun i j => decide (j < i)) fun i j => strLt j i) kGt := by
  intro H R Q dx dy Fx Fy x y ho w qx qy c
  unfold kGt at w
  split at w
  · exact .inl ⟨_, _, qx.2, qy.2, c.atom w⟩
  · exact .inr ⟨_, _, qx.2, qy.2, c.atom w⟩
  · exact w.elim
theorem s_ge : SndF h (rCmp (fun i j => decide (j ≤ i)) fun i j => !strLt i j) kGe := by
  intro H R Q dx dy Fx Fy x y ho w qx qy c
  unfold kGe at w
  split at w
  · exact .inl ⟨_, _, qx.2, qy.2, c.atom w⟩
  · exact .inr ⟨_, _, qx.2, qy.2, c.atom w⟩
  · exact w.elim
theorem Rep.isNone {H : Hp} {d : D} {F : List Addr} {v : V} (r : Rep h H d F v) : decide (v = .non) = PL.isNone d := by
  cases d with
  | v x =>
    rw [r.2]
    cases x <;> simp [PL.isNone]
  | tup z ds => obtain ⟨a, xs, e, _⟩ := r; rw [e]; simp [PL.isNone]
  | lst ds => obtain ⟨a, xs, F1, e, _⟩ := r; rw [e]; simp [PL.isNone]
  | dic ks ds => obtain ⟨a, xs, F1, e, _⟩ := r; rw [e]; simp [PL.isNone]
  | dit ks ds => obtain ⟨a, xs, F1, e, _⟩ := r; rw [e]; simp [PL.isNone]
  | hand => rw [r.2]; simp [PL.isNone]
abbrev rIs2 : R2 := fun x y H Q => (y = .non ∧ Q (.bl (decide (x = .non))) H) ∨ rIsB x y H Q
abbrev rNot2 : R2 := fun x y H Q => (y = .non ∧ Q (.bl (!decide (x = .non))) H) ∨ rNotB x y H Q
theorem o_is : OpR X (compareOp .Is) rIs2 := op_isN.or op_isBl
theorem o_isNot : OpR X (compareOp .IsNot) rNot2 := op_notN.or op_notBl
theorem s_is : SndF h rIs2 kIs := by
  intro H R Q dx dy Fx Fy x y ho w qx qy c
  unfold kIs at w
  split at w
  · exact .inl ⟨qy.2, by rw [qx.isNone]; exact c.atom w⟩
  · exact .inr ⟨_, _, qx.2, qy.2, c.atom w⟩
  · exact w.elim
theorem s_isNot : SndF h rNot2 kIsNot := by
  intro H R Q dx dy Fx Fy x y ho w qx qy c
  unfold kIsNot at w
  split at w
  · exact .inl ⟨qy.2, by rw [qx.isNone]; exact c.atom w⟩
  · exact .inr ⟨_, _, qx.2, qy.2, c.atom w⟩
  · exact w.elim
end
end PL

namespace PL
open PySem PySem.Spec PyProof.Rows L2

/-! ### keys, tables -/
def D.key : D → Option Key
  | .v (.int i) => some (.inl i)
  | .v (.str x) => some (.inr x)
  | _ => none
def keysOf : List D → Option (List Key)
  | [] => some []
  | d :: ds => match d.key, keysOf ds with
    | some k, some ks => some (k :: ks)
    | _, _ => none
def D.keyT : D → Option (List Key)
  | .tup false ds => keysOf ds
  | _ => none
def atoms : List D → Option (List V)
  | [] => some []
  | .v x :: ds => match atoms ds with
    | some xs => some (x :: xs)
    | none => none
  | _ :: _ => none
section
variable {κ : Type} [DecidableEq κ]
def memK (ks : List κ) (k : κ) : Bool := ks.any fun x => decide (x = k)
def lookD {α : Type} : List κ → List α → κ → Option α
  | k0 :: ks, d :: ds, k => if k0 = k then some d else lookD ks ds k
  | _, _, _ => none
def putD {α : Type} : List κ → List α → κ → α → List κ × List α
  | k0 :: ks, d0 :: ds, k, d => if k0 = k then (k0 :: ks, d :: ds) else (k0 :: (putD ks ds k d).1, d0 :: (putD ks ds k d).2)
  | _, _, k, d => ([k], [d])
end
section
variable {h : Hd} {H : Hp}
theorem key_v {d : D} {k : Key} {F : List Addr} {v : V} (e : d.key = some k) (r : Rep h H d F v) : v = kV k := by
  unfold D.key at e
  split at e
  · cases e; exact r.2
  · cases e; exact r.2
  · cases e
theorem keys_v : ∀ {ds : List D} {ks : List Key} {F : List Addr} {xs : List V}, keysOf ds = some ks → RepL h H ds F xs → xs = ks.map kV
  | [], ks, F, xs, e, r => by cases e; exact r.2
  | d :: ds, ks, F, xs, e, r => by
    unfold keysOf at e
    split at e
    · rename_i k ks' e1 e2
      cases e
      obtain ⟨F1, F2, x, ys, _, ex, r1, r2⟩ := r
      rw [ex, key_v e1 r1, keys_v e2 r2]; rfl
    · cases e
theorem keyT_v {d : D} {k : List Key} {F : List Addr} {v : V} (e : d.keyT = some k) (r : Rep h H d F v) : ∃ b, v = .ref b ∧ H b = some (.tup (k.map kV)) := by
  unfold D.keyT at e
  split at e
  · obtain ⟨a, xs, e1, e2, r⟩ := r
    exact ⟨a, e1, by rw [e2, keys_v e r]⟩
  · cases e
theorem look_rep {κ : Type} [DecidableEq κ] : ∀ {kvs : List (κ × V)} {ds : List D} {F : List Addr} (k : κ), RepL h H ds F (kvs.map (·.2)) →
    (∀ d, lookD (kvs.map (·.1)) ds k = some d → ∃ v F1, valV kvs k = some v ∧ Rep h H d F1 v ∧ F1.Sublist F) ∧ (lookD (kvs.map (·.1)) ds k = none → valV kvs k = none)
  | [], ds, F, k, r => ⟨fun d e => by simp [lookD] at e, fun _ => rfl⟩
  | p :: kvs, [], F, k, r => by
    have := r.2
    simp at this
  | p :: kvs, d0 :: ds, F, k, r => by
    obtain ⟨F1, F2, x, ys, e1, e2, r1, r2⟩ := r
    rw [List.map_cons] at e2
    injection e2 with e2 e3
    subst e2 e3
    obtain ⟨i1, i2⟩ := look_rep k r2
    show (∀ d, (if p.1 = k then some d0 else lookD (kvs.map (·.1)) ds k) = some d → _) ∧ ((if p.1 = k then some d0 else lookD (kvs.map (·.1)) ds k) = none → _)
    by_cases c : p.1 = k
    · rw [if_pos c]
      refine ⟨fun d e => ?_, fun e => by cases e⟩
      cases e
      exact ⟨_, F1, valV_pos c, r1, by rw [e1]; exact List.sublist_append_left _ _⟩
    · rw [if_neg c]
      refine ⟨fun d e => ?_, fun e => by rw [valV_neg c]; exact i2 e⟩
      obtain ⟨v, F3, q1, q2, q3⟩ := i1 d e
      exact ⟨v, F3, by rw [valV_neg c]; exact q1, q2, by rw [e1]; exact q3.trans (List.sublist_append_right _ _)⟩
theorem look_isSome {κ α : Type} [DecidableEq κ] : ∀ {ks : List κ} {ds : List α} (k : κ), ks.length = ds.length → (lookD ks ds k).isSome = memK ks k
  | [], _, k, _ => by simp [lookD, memK]
  | k0 :: ks, [], k, e => by simp at e
  | k0 :: ks, d :: ds, k, e => by
    show (if k0 = k then some d else lookD ks ds k).isSome = (decide (k0 = k) || memK ks k)
    by_cases c : k0 = k
    · rw [if_pos c, decide_eq_true c]; rfl
    · rw [if_neg c, look_isSome k (by simpa using e), decide_eq_false c]; rfl
theorem atoms_v : ∀ {ds : List D} {ys : List V} {F : List Addr} {xs : List V}, atoms ds = some ys → RepL h H ds F xs → xs = ys
  | [], ys, F, xs, e, r => by cases e; exact r.2
  | .v x :: ds, ys, F, xs, e, r => by
    unfold atoms at e
    split at e
    · rename_i zs e2
      cases e
      obtain ⟨F1, F2, y, ws, _, ex, r1, r2⟩ := r
      rw [ex, r1.2, atoms_v e2 r2]
    · cases e
  | .tup _ _ :: ds, ys, F, xs, e, r => by cases e
  | .lst _ :: ds, ys, F, xs, e, r => by cases e
  | .dic _ _ :: ds, ys, F, xs, e, r => by cases e
  | .dit _ _ :: ds, ys, F, xs, e, r => by cases e
  | .hand :: ds, ys, F, xs, e, r => by cases e
end

/-! ### in -/
def oneSign (x : Str) : Option Nat := if x.cps.size = 1 then x.cps[0]? else none
theorem oneSign_eq {x : Str} {c : Nat} (e : oneSign x = some c) : x = ⟨#[c]⟩ := by
  unfold oneSign at e
  split at e
  · rename_i hs
    obtain ⟨a⟩ := x
    obtain ⟨l⟩ := a
    match l, hs, e with
    | [y], _, e =>
      have : y = c := by simpa using e
      rw [this]
  · cases e
def kInB (x y : D) : Option Bool := match y with
  | .v (.str z) => match x with
    | .v (.str t) => (oneSign t).map fun c => decide (c ∈ z.cps.toList)
    | _ => none
  | .tup z ds => match x, atoms ds with
    | .v a, some xs => if flatV a && xs.all flatV then some (inV a xs) else none
    | _, _ => none
  | .lst ds => match x, atoms ds with
    | .v a, some xs => if flatV a && xs.all flatV then some (inV a xs) else none
    | _, _ => none
  | .dic ks _ => x.key.map fun k => memK ks k
  | .dit ks _ => x.keyT.map fun k => memK ks k
  | _ => none
def kIn (x y : D) (R : D → Prop) : Prop := match kInB x y with
  | some b => R (.v (.bl b))
  | none => False
def kNotIn (x y : D) (R : D → Prop) : Prop := match kInB x y with
  | some b => R (.v (.bl (!b)))
  | none => False
def rInD2 (neg : Bool) : R2 := fun y x H Q => ∃ a o, x = .ref a ∧ DGet H a y o ∧ Q (.bl (if neg then !o.isSome else o.isSome)) H
section
variable {X : Cx} {h : Hd}
theorem op_inDict (hu : X.A.units + 1 < cLine) : OpR X (compareOp .In) (rInD2 false) := by
  intro pins s σ H y x u v Q I ry rx q
  obtain ⟨a, o, rfl, g, q⟩ := q
  cases rx
  exact d_in hu I g ry fun s' I' => ⟨.bl o.isSome, H, I', rfl, q⟩
theorem op_notInDict (hu : X.A.units + 1 < cLine) : OpR X (compareOp .NotIn) (rInD2 true) := by
  intro pins s σ H y x u v Q I ry rx q
  obtain ⟨a, o, rfl, g, q⟩ := q
  cases rx
  exact d_notIn hu I g ry fun s' I' => ⟨.bl (!o.isSome), H, I', rfl, q⟩
abbrev rIn3 (K : PySem.W.Frag) (neg : Bool) : R2 := fun x y H Q => (∃ (c : Nat) (z : Str), x = .str ⟨#[c]⟩ ∧ y = .str z ∧ Q (.bl (if neg then !decide (c ∈ z.cps.toList) else decide (c ∈ z.cps.toList))) H) ∨ rIn K neg x y H Q ∨ rInD2 neg x y H Q
theorem o_in (hu : X.A.units + 1 < cLine) : OpR X (compareOp .In) (rIn3 X.K false) := op_in_sign.or (op_in_seq.or (op_inDict hu))
theorem o_notIn (hu : X.A.units + 1 < cLine) : OpR X (compareOp .NotIn) (rIn3 X.K true) := op_notIn_sign.or (op_notIn_seq.or (op_notInDict hu))
theorem rin_any {K : PySem.W.Frag} {neg : Bool} {H : Hp} {Q : VK} {dx dy : D} {Fx Fy : List Addr} {x y : V} {b : Bool} (w : kInB dx dy = some b) (qx : Rep h H dx Fx x) (qy : Rep h H dy Fy y) (q : Q (.bl (if neg then !b else b)) H) : rIn3 K neg x y H Q := by
  unfold kInB at w
  split at w
  · rename_i z
    split at w
    · rename_i t
      cases e : oneSign t with
      | none => rw [e] at w; cases w
      | some c =>
        rw [e] at w
        cases w
        rw [oneSign_eq e] at qx
        exact .inl ⟨c, z, qx.2, qy.2, q⟩
    · cases w
  · split at w
    · rename_i a xs e
      split at w
      · rename_i f
        cases w
        rw [Bool.and_eq_true] at f
        obtain ⟨p, ys, ey, e2, r⟩ := qy
        have := atoms_v e r
        subst this
        rw [qx.2]
        exact .inr (.inl ⟨p, ys, ey, .inr e2.sq, f.1, f.2, q⟩)
      · cases w
    · cases w
  · split at w
    · rename_i a xs e
      split at w
      · rename_i f
        cases w
        rw [Bool.and_eq_true] at f
        obtain ⟨p, ys, F1, ey, _, e2, r⟩ := qy
        have := atoms_v e r
        subst this
        rw [qx.2]
        exact .inr (.inl ⟨p, ys, ey, .inl (.inl (.inl e2)), f.1, f.2, q⟩)
      · cases w
    · cases w
  · rename_i ks ds
    cases e : dx.key with
    | none => rw [e] at w; cases w
    | some k =>
      rw [e] at w
      cases w
      obtain ⟨a, kvs, F1, ey, _, e3, ⟨e4, nd⟩, r⟩ := qy
      have i := look_rep k r
      refine .inr (.inr ⟨a, valV kvs k, ey, .inl ⟨kvs, k, e3, key_v e qx, rfl⟩, ?_⟩)
      have : (valV kvs k).isSome = memK ks k := by
        rw [← e4, ← look_isSome (ds := ds) k (by rw [List.length_map, ← List.length_map (f := (·.2)) (as := kvs), r.length])]
        cases z : lookD (kvs.map (·.1)) ds k with
        | none => rw [i.2 z]; rfl
        | some d => obtain ⟨v, _, q1, _⟩ := i.1 d z; rw [q1]; rfl
      rw [this]; exact q
  · rename_i ks ds
    cases e : dx.keyT with
    | none => rw [e] at w; cases w
    | some k =>
      rw [e] at w
      cases w
      obtain ⟨a, kvs, F1, ey, _, e3, ⟨e4, nd⟩, r⟩ := qy
      have i := look_rep k r
      obtain ⟨b', eb, eb2⟩ := keyT_v e qx
      refine .inr (.inr ⟨a, valV kvs k, ey, .inr ⟨kvs, k, b', e3, eb, eb2, rfl⟩, ?_⟩)
      have : (valV kvs k).isSome = memK ks k := by
        rw [← e4, ← look_isSome (ds := ds) k (by rw [List.length_map, ← List.length_map (f := (·.2)) (as := kvs), r.length])]
        cases z : lookD (kvs.map (·.1)) ds k with
        | none => rw [i.2 z]; rfl
        | some d => obtain ⟨v, _, q1, _⟩ := i.1 d z; rw [q1]; rfl
      rw [this]; exact q
  · cases w
theorem s_in {K : PySem.W.Frag} : SndF h (rIn3 K false) kIn := by
  intro H R Q dx dy Fx Fy x y ho w qx qy c
  unfold kIn at w
  split at w
  · rename_i b e
    exact rin_any e qx qy (c.atom w)
  · exact w.elim
theorem s_notIn {K : PySem.W.Frag} : SndF h (rIn3 K true) kNotIn := by
  intro H R Q dx dy Fx Fy x y ho w qx qy c
  unfold kNotIn at w
  split at w
  · rename_i b e
    exact rin_any e qx qy (c.atom w)
  · exact w.elim

/-! ### a[i] -/
def kIxO (x y : D) : Option D := match x with
  | .lst ds => match y with
    | .v (.int i) => atI ds i
    | _ => none
  | .tup z ds => match y with
    | .v (.int i) => atI ds i
    | _ => none
  | .v (.str z) => match y with
    | .v (.int i) => if z.length ≤ sizeLine then (atI z.cps.toList i).map fun c => .v (.str ⟨#[c]⟩) else none
    | _ => none
  | .dic ks ds => match y.key with
    | some k => lookD ks ds k
    | none => none
  | .dit ks ds => match y.keyT with
    | some k => lookD ks ds k
    | none => none
  | _ => none
def kIx (x y : D) (R : D → Prop) : Prop := match kIxO x y with
  | some d => R d
  | none => False
def rIxD : R2 := fun x y H Q => ∃ a v, x = .ref a ∧ DGet H a y (some v) ∧ Q v H
theorem ix_dict (hu : X.A.units + 1 < cLine) : IxR X rIxD := by
  intro value slice pins s σ H x y v u Q I rx ry q hs
  obtain ⟨a, z, rfl, g, q⟩ := q
  cases rx
  exact tail_any (dict_typeIs I g) PySem.F.slot_dict_getitem.lookup (d_getItem hu I g ry fun w' s3 I3 rw' => ⟨z, H, I3, rw', q⟩) hs
abbrev rIx5 (K : PySem.W.Frag) : R2 := fun x y H Q => rIx K x y H Q ∨ rIxD x y H Q
theorem o_ix (hu : X.A.units + 1 < cLine) : IxR X (rIx5 X.K) := ix_seq.or (ix_dict hu)
theorem at_rep {H : Hp} {ds : List D} {F : List Addr} {xs : List V} {i : Int} {d : D} (r : RepL h H ds F xs) (e : atI ds i = some d) : ∃ v F1, atI xs i = some v ∧ Rep h H d F1 v ∧ F1.Sublist F := by
  unfold atI at e ⊢
  rw [r.length]
  cases z : ixN ds.length i with
  | none => rw [z] at e; cases e
  | some j =>
    rw [z] at e
    obtain ⟨F1, x, q1, q2, q3⟩ := r.get (i := j) e
    exact ⟨x, F1, q1, q2, q3⟩
theorem s_ix {K : PySem.W.Frag} : SndP h (rIx5 K) kIx := by
  intro H R Q dx dy Fx Fy x y ho w qx qy np c
  unfold kIx at w
  split at w
  rotate_left
  · exact w.elim
  rename_i d e
  unfold kIxO at e
  split at e
  · split at e
    · obtain ⟨p, xs, F1, ex, eF, e1, r⟩ := qx
      obtain ⟨v, F2, q1, q2, q3⟩ := at_rep r e
      exact .inl (.inl ⟨p, xs, _, v, ex, qy.2, .inl (.inl e1), q1, c.here w q2 fun a ha => np a (by rw [eF]; exact List.mem_cons_of_mem _ (q3.subset ha))⟩)
    · cases e
  · split at e
    · obtain ⟨p, xs, ex, e1, r⟩ := qx
      obtain ⟨v, F2, q1, q2, q3⟩ := at_rep r e
      exact .inl (.inr (.inl ⟨p, xs, _, v, ex, qy.2, e1.sq, q1, c.here w q2 fun a ha => np a (q3.subset ha)⟩))
    · cases e
  · split at e
    · rename_i z _ i
      split at e
      · rename_i hz
        cases e2 : atI z.cps.toList i with
        | none => rw [e2] at e; cases e
        | some k =>
          rw [e2] at e
          cases e
          exact .inl (.inr (.inr ⟨z, i, k, qx.2, qy.2, hz, e2, c.atom w⟩))
      · cases e
    · cases e
  · split at e
    · rename_i k ek
      obtain ⟨a, kvs, F1, ex, eF, e3, ⟨e4, nd⟩, r⟩ := qx
      subst e4
      obtain ⟨v, F2, q1, q2, q3⟩ := (look_rep k r).1 d e
      exact .inr ⟨a, v, ex, .inl ⟨kvs, k, e3, key_v ek qy, q1.symm⟩, c.here w q2 fun b hb => np b (by rw [eF]; exact List.mem_cons_of_mem _ (q3.subset hb))⟩
    · cases e
  · split at e
    · rename_i k ek
      obtain ⟨a, kvs, F1, ex, eF, e3, ⟨e4, nd⟩, r⟩ := qx
      subst e4
      obtain ⟨b', eb, eb2⟩ := keyT_v ek qy
      obtain ⟨v, F2, q1, q2, q3⟩ := (look_rep k r).1 d e
      exact .inr ⟨a, v, ex, .inr ⟨kvs, k, b', e3, eb, eb2, q1.symm⟩, c.here w q2 fun b hb => np b (by rw [eF]; exact List.mem_cons_of_mem _ (q3.subset hb))⟩
    · cases e
  · cases e
end
end PL

namespace PL
open PySem PySem.Spec PyProof.Rows L2

/-! ### sorted, of whatever may be gathered -/
abbrev dLe : D → D → Bool := fun a b => PySem.W.dataLe false D.py a b
def sortD (ds : List D) : List D := ds.mergeSort dLe
theorem sortD_length (ds : List D) : (sortD ds).length = ds.length := List.length_mergeSort ..

theorem repL_zip {h : Hd} {H : Hp} : ∀ {ds : List D} {xs : List V}, RepL h H ds [] xs → ∀ p ∈ xs.zip ds, Rep h H p.2 [] p.1
  | [], xs, r, p, hp => by rw [r.2] at hp; simp at hp
  | d :: ds, xs, r, p, hp => by
    obtain ⟨F1, F2, x, ys, e1, e2, r1, r2⟩ := r
    obtain ⟨f1, f2⟩ := List.append_eq_nil_iff.mp e1.symm
    subst f1 f2
    rw [e2, List.zip_cons_cons] at hp
    rcases List.mem_cons.mp hp with z | z
    · rw [z]; exact r1
    · exact repL_zip r2 p z
theorem repL_of {h : Hd} {H : Hp} : ∀ {ps : List (V × D)}, (∀ p ∈ ps, Rep h H p.2 [] p.1) → RepL h H (ps.map (·.2)) [] (ps.map (·.1))
  | [], _ => ⟨rfl, rfl⟩
  | p :: ps, r => ⟨[], [], p.1, ps.map (·.1), rfl, rfl, r p (by simp), repL_of fun q hq => r q (List.mem_cons_of_mem _ hq)⟩
theorem vals_each {xs : List V} {us : List Value} {ds : List D} (l : xs.length = ds.length) (r : Vals xs us) : PySem.W.EachIs (fun u (b : V × D) => RelV b.1 u) us (xs.zip ds) := by
  induction r generalizing ds with
  | nil => exact .nil
  | cons a t ih =>
    cases ds with
    | nil => simp at l
    | cons d ds => exact .cons a (ih (by simpa using l))
theorem each_vals {us : List Value} {ps : List (V × D)} (e : PySem.W.EachIs (fun u (b : V × D) => RelV b.1 u) us ps) : Vals (ps.map (·.1)) us := by
  induction e with
  | nil => exact .nil
  | cons a t ih => exact .cons a ih
structure SortOk (ds : List D) : Prop where
  imm : immL ds = true
  alike : PySem.W.AllAlike (ds.map D.py)
  able : PySem.W.Sortable (ds.map D.py)
  each : ∀ d ∈ ds, d.py.canLay0 = true ∧ d.py.depth ≤ 32
  len : ds.length ≤ sizeLine
section
variable {X : Cx} {pins : List (Addr × Obj)} {σ : L2.St} {H : Hp} {s : Shared} {h : Hd}
theorem zip_snd : ∀ {xs : List V} {ds : List D}, xs.length = ds.length → (xs.zip ds).map (·.2) = ds
  | [], [], _ => rfl
  | [], _ :: _, h => by simp at h
  | _ :: _, [], h => by simp at h
  | x :: xs, d :: ds, h => by rw [List.zip_cons_cons, List.map_cons, zip_snd (by simpa using h)]
theorem sorted_coll {arg : Value} {xs : List V} {ds : List D} {Q : VK} (I : Inv X pins σ H s) (hu : X.A.units + 64 < cLine) (r : RepL h H ds [] xs) (ok : SortOk ds)
    (hc : ∀ (E : Value → Shared → Prop) (R : List Value → Shared → Prop), (∀ h' tk us, (∀ b o, s.heap.get? b = some o → h'.get? b = some o) → Vals xs us → R us { s with heap := h', toks := tk }) → wpAny (model X.prog X.w) X.A.in1 (collect arg) R E s)
    (q : ∀ p xs', H p = none → RepL h H (sortD ds) [] xs' → Q (.ref p) (upd H p (.lst xs'))) :
    wpAny (model X.prog X.w) X.A (call (.builtin "sorted") [arg]) (EP X pins σ Q) X.xe s := by
  have hl : xs.length = ds.length := r.length
  refine Calls.call_function_entry PyProof.Rows.kind_sorted PyProof.Rows.plain_sorted PyProof.Rows.entry_sorted (PyProof.Rows.args_sorted1 _) ?_
  unfold Builtin.«sorted»
  refine wpAny_bind (m := checkCount "sorted" 1 1 _) (wpAny_pure ?_)
  refine wpAny_bind (hc _ _ fun h' tk us hk rv => ?_)
  have I1 : Inv X pins σ H { s with heap := h', toks := tk } := I.kept hk
  have hul : us.length = ds.length := by rw [← rv.length, hl]
  refine wpAny_bind (wpAny_newList ?_ (by rw [hul]; exact ok.len))
  have hoL : (h'.push (seqObj "list" us.toArray 0)).get? h'.objs.size = some (seqObj "list" us.toArray 0) := Heap.get?_push_size _ rfl
  show wpAny _ _ _ _ _ { s with heap := h'.push (seqObj "list" us.toArray 0), toks := tk }
  have keep2 : ∀ b o, h'.get? b = some o → (PySem.W.sortingHeap (h'.push (seqObj "list" us.toArray 0)) h'.objs.size us).get? b = some o := fun b o e =>
    PySem.W.sortingHeap_old (Nat.ne_of_lt (Heap.lt_size e)) (Heap.get?_push_of_some _ e)
  have rd : ∀ p ∈ xs.zip ds, ∀ u, RelV p.1 u → ∃ as, Reads (PySem.W.sortingHeap (h'.push (seqObj "list" us.toArray 0)) h'.objs.size us) u p.2.py as := fun p hp u ru => by
    have hm : p.2 ∈ ds := (List.of_mem_zip hp).2
    obtain ⟨as, z⟩ := Dp.reads I1 p.2.py p.1 u (Rep.dp p.2 [] p.1 (repL_zip r p hp) (ok.each _ hm).1) ru
    exact ⟨as, PyProof.Rows.Reads.keeps keep2 z⟩
  have e0 := vals_each hl rv
  have er : PySem.W.EachIs (fun u (b : V × D) => ∃ as, Reads (PySem.W.sortingHeap (h'.push (seqObj "list" us.toArray 0)) h'.objs.size us) u b.2.py as) us (xs.zip ds) :=
    (PySem.W.each_mem e0).mono fun u b hb => rd b hb.2 u hb.1
  have em : (xs.zip ds).map (fun b : V × D => b.2.py) = ds.map D.py := by
    have e2 : (xs.zip ds).map (fun b : V × D => b.2.py) = ((xs.zip ds).map (·.2)).map D.py := by rw [List.map_map]; rfl
    rw [e2, zip_snd hl]
  have hal : PySem.W.AllAlike ((xs.zip ds).map fun b : V × D => b.2.py) := by rw [em]; exact ok.alike
  have hab : PySem.W.Sortable ((xs.zip ds).map fun b : V × D => b.2.py) := by rw [em]; exact ok.able
  refine wpAny_bind (wpAny_holding (wpAny_call_entry PyProof.Rows.slot_list_sort ⟨_, hoL, rfl⟩ PyProof.Rows.entry_list_sort
    (PySem.W.list_sort_vals (s := { s with heap := h'.push (seqObj "list" us.toArray 0), toks := tk }) (κ := PySem.W.dataKind (PySem.W.sortingHeap (h'.push (seqObj "list" us.toArray 0)) h'.objs.size us) ((xs.zip ds).map fun b : V × D => b.2.py)) hoL
      (PySem.W.SortsAt.data (s := { s with heap := PySem.W.sortingHeap (h'.push (seqObj "list" us.toArray 0)) h'.objs.size us, toks := tk }) (PySem.W.each_map (R := fun u d => ∃ as, Reads (PySem.W.sortingHeap (h'.push (seqObj "list" us.toArray 0)) h'.objs.size us) u d as) (fun b : V × D => b.2.py) er) hal hab (fun d hd => ?_)) (by rw [hul]; exact ok.len) ⟨_, rfl, ?_⟩)
    (PyProof.Rows.args_list_sort _)))
  · rw [em] at hd
    obtain ⟨d', hd', e'⟩ := List.mem_map.mp hd
    have := (ok.each d' hd').2
    rw [e'] at this
    show X.A.units + 1 + 1 + d.depth < cLine
    omega
  · have out := PySem.W.sortVals_data false (R := fun u (b : V × D) => RelV b.1 u) e0 er hal
    obtain ⟨e', he'⟩ := PyProof.Rows.sortedHeap_at (vs := us) (out := (PySem.W.sortVals (PySem.W.dataKind (PySem.W.sortingHeap (h'.push (seqObj "list" us.toArray 0)) h'.objs.size us) ((xs.zip ds).map fun b : V × D => b.2.py)) false us us).toArray) hoL
    have rv' := each_vals out
    have pm : ((xs.zip ds).mergeSort (PySem.W.dataLe false fun b : V × D => b.2.py)).Perm (xs.zip ds) := List.mergeSort_perm ..
    have rr : RepL h H (((xs.zip ds).mergeSort (PySem.W.dataLe false fun b : V × D => b.2.py)).map (·.2)) [] (((xs.zip ds).mergeSort (PySem.W.dataLe false fun b : V × D => b.2.py)).map (·.1)) := repL_of fun p hp => repL_zip r p (pm.mem_iff.mp hp)
    have es : ((xs.zip ds).mergeSort (PySem.W.dataLe false fun b : V × D => b.2.py)).map (·.2) = sortD ds := by
      unfold sortD
      have e2 := List.map_mergeSort (r := PySem.W.dataLe false fun b : V × D => b.2.py) (s := dLe) (f := fun b : V × D => b.2) (l := xs.zip ds) (fun a _ b _ => rfl)
      rw [zip_snd hl] at e2
      exact e2
    rw [es] at rr
    have hlen : (((xs.zip ds).mergeSort (PySem.W.dataLe false fun b : V × D => b.2.py)).map (·.1)).length ≤ sizeLine := by
      rw [rr.length, sortD_length]; exact ok.len
    refine wpAny_pure ⟨_, rfl, .ref h'.objs.size, upd H h'.objs.size (.lst (((xs.zip ds).mergeSort (PySem.W.dataLe false fun b : V × D => b.2.py)).map (·.1))), I1.laid (t' := tk) (fun b u e => ?_) (Nat.le_refl _)
      (show ObjOk X.prog X.w _ _ _ (.lst _) from ⟨hlen, _, e', rv', he'⟩), rfl, q _ _ (I1.hok.fresh (Nat.le_refl _)) rr⟩
    have hb : b < h'.objs.size := Heap.lt_size e
    rw [PyProof.Rows.sortedHeap_old (Nat.ne_of_lt hb) (by rw [size_push']; exact Nat.lt_succ_of_lt hb)]
    exact Heap.get?_push_of_some _ e
end
end PL

namespace PL
open PySem PySem.Spec PyProof.Rows L2

/-! ### what may be gathered -/
def signs (z : Str) : List D := z.cps.toList.map fun c => .v (.str ⟨#[c]⟩)
def keyD : Key → D
  | .inl i => .v (.int i)
  | .inr x => .v (.str x)
def gath : D → Option (List D)
  | .lst ds => some ds
  | .tup z ds => some ds
  | .v (.str z) => some (signs z)
  | .dic ks _ => some (ks.map keyD)
  | _ => none
section
variable {X : Cx} {pins : List (Addr × Obj)} {σ : L2.St} {H : Hp} {s : Shared} {h : Hd}
theorem immL_map {α : Type} (f : α → D) (hf : ∀ a, (f a).imm = true) : ∀ l : List α, immL (l.map f) = true
  | [] => rfl
  | a :: l => by
    show ((f a).imm && immL (l.map f)) = true
    rw [hf, immL_map f hf l]; rfl
theorem repL_signs (z : List Nat) : RepL h H (z.map fun c => .v (.str ⟨#[c]⟩)) [] (z.map fun c => V.str ⟨#[c]⟩) := by
  induction z with
  | nil => exact ⟨rfl, rfl⟩
  | cons c z ih => exact ⟨[], [], _, _, rfl, rfl, ⟨rfl, rfl⟩, ih⟩
theorem repL_keys (ks : List Key) : RepL h H (ks.map keyD) [] (ks.map kV) := by
  induction ks with
  | nil => exact ⟨rfl, rfl⟩
  | cons k ks ih =>
    refine ⟨[], [], _, _, rfl, rfl, ?_, ih⟩
    cases k <;> exact ⟨rfl, rfl⟩
theorem keyD_imm (k : Key) : (keyD k).imm = true := by cases k <;> rfl
/-- gathering -/
theorem coll {d : D} {F : List Addr} {v : V} {u : Value} {ds : List D} (I : Inv X pins σ H s) (hcalm : X.calm = true) (q : Rep h H d F v) (ru : RelV v u) (e : gath d = some ds) (im : immL ds = true) (hl : ds.length ≤ sizeLine) :
    ∃ xs, RepL h H ds [] xs ∧ ∀ (A : Around) (E : Value → Shared → Prop) (R : List Value → Shared → Prop), A.handled = none → (∀ h' tk us, (∀ b o, s.heap.get? b = some o → h'.get? b = some o) → Vals xs us → R us { s with heap := h', toks := tk }) → wpAny (model X.prog X.w) A (collect u) R E s := by
  unfold gath at e
  split at e
  · cases e
    obtain ⟨a, xs, F1, rfl, _, e3, r⟩ := q
    have := RepL.imm _ _ _ im r
    subst this
    cases ru
    obtain ⟨its, rv, ⟨o, n, ho, hc, _, hd⟩, hz⟩ := I.list (.inl (.inl e3))
    refine ⟨xs, r, fun A E R _ hR => wpAny_collect_seq a (.inl rfl) ho hc hd (fun h' k => ?_) (by rw [List.size_toArray, ← rv.length]; exact hz)⟩
    exact hR h' s.toks _ k (by simpa using rv)
  · cases e
    obtain ⟨a, xs, rfl, e3, r⟩ := q
    have := RepL.imm _ _ _ im r
    subst this
    cases ru
    obtain ⟨its, rv, ⟨o, ho, hc, n, hd⟩, hz⟩ := I.tuple e3.sq
    refine ⟨xs, r, fun A E R _ hR => wpAny_collect_seq a (.inr rfl) ho hc hd (fun h' k => ?_) (by rw [List.size_toArray, ← rv.length]; exact hz)⟩
    exact hR h' s.toks _ k (by simpa using rv)
  · rename_i z
    cases e
    rw [q.2] at ru
    obtain ⟨t, rfl⟩ := ru
    have hz : z.cps.size ≤ sizeLine := by
      have : (signs z).length ≤ sizeLine := hl
      unfold signs at this
      rw [List.length_map, Array.length_toList] at this
      exact this
    refine ⟨z.cps.toList.map fun c => V.str ⟨#[c]⟩, repL_signs _, fun A E R hh hR => wpAny_collect_str hh z t (fun s' acc k g1 g2 g3 it => ?_) hz⟩
    obtain ⟨h', g', d', t', o'⟩ := s'
    simp only at g1 g2 g3
    subst g1 g2 g3
    refine hR h' t' acc.toList k (vals_of_at (by rw [List.length_map, Array.length_toList, Array.length_toList]; exact it.1.symm) fun j x w e1 e2 => ?_)
    rw [List.getElem?_map, Array.getElem?_toList] at e1
    rw [Array.getElem?_toList] at e2
    obtain ⟨c, ec, ex⟩ := Option.map_eq_some_iff.mp e1
    obtain ⟨c', t', hc', hw⟩ := it.2 j w e2
    rw [ec] at hc'
    cases hc'
    subst hw ex
    exact ⟨t', rfl⟩
  · rename_i ks ds'
    cases e
    obtain ⟨a, kvs, F1, rfl, _, e3, ⟨e4, nd⟩, r⟩ := q
    cases ru
    obtain ⟨z, lo, vs, rel, dd⟩ := dk_rd I.hok e3
    obtain ⟨ep, hat⟩ := dd.dictAt
    have ek : vs.map (·.1) = ks := by rw [← e4]; exact rel.keys.symm
    refine ⟨ks.map kV, repL_keys ks, fun A E R hh hR => PySem.W.kdu_collect (A := A) (PySem.W.kdl_dict (knd := mixKind X.prog X.w) (kvs := vs) (ep := ep) lo) hh hat (by rw [← rel.length]; exact z) fun h' tk acc hk hacc => ?_⟩
    refine hR h' tk acc.toList hk (vals_of_at ?_ fun j x w e1 e2 => ?_)
    · have h1 := hacc.1
      have h2 : ks.length = vs.length := by rw [← ek, List.length_map]
      exact (List.length_map ..).trans (h2.trans (h1.symm.trans (Array.length_toList ..).symm))
    · rw [Array.getElem?_toList] at e2
      obtain ⟨k, x', e5, e6⟩ := hacc.2 j w e2
      have e7 : ks[j]? = some k := by rw [← ek, List.getElem?_map, e5]; rfl
      rw [List.getElem?_map, e7] at e1
      have : kV k = x := Option.some.inj e1
      rw [← this]
      exact keyIs_rel e6
  · cases e

/-! ### calls of built-ins, by data -/
def kSorted : List D → (D → Prop) → Prop
  | [d], R => match gath d with
    | some ds => SortOk ds ∧ R (.lst (sortD ds))
    | none => False
  | _, _ => False
def kList : List D → (D → Prop) → Prop
  | [d], R => match gath d with
    | some ds => immL ds = true ∧ ds.length ≤ sizeLine ∧ R (.lst ds)
    | none => False
  | _, _ => False
def kTuple : List D → (D → Prop) → Prop
  | [.lst ds], R => immL ds = true ∧ R (.tup false ds)
  | [.tup z ds], R => immL ds = true ∧ R (.tup z ds)
  | _, _ => False
def kLen : List D → (D → Prop) → Prop
  | [.lst ds], R => R (.v (.int ds.length))
  | [.tup z ds], R => R (.v (.int ds.length))
  | [.v (.str z)], R => z.length ≤ sizeLine ∧ R (.v (.int z.length))
  | [.dic ks _], R => R (.v (.int ks.length))
  | _, _ => False
def boolsOf : List D → Option (List Bool)
  | [] => some []
  | .v (.bl b) :: ds => match boolsOf ds with
    | some bs => some (b :: bs)
    | none => none
  | _ :: _ => none
def intsOf : List D → Option (List Int)
  | [] => some []
  | .v (.int b) :: ds => match intsOf ds with
    | some bs => some (b :: bs)
    | none => none
  | _ :: _ => none
def strsOf : List D → Option (List Str)
  | [] => some []
  | .v (.str b) :: ds => match strsOf ds with
    | some bs => some (b :: bs)
    | none => none
  | _ :: _ => none
def kAll : List D → (D → Prop) → Prop
  | [.lst ds], R => match boolsOf ds with
    | some bs => R (.v (.bl (bs.all id)))
    | none => False
  | _, _ => False
def kAny : List D → (D → Prop) → Prop
  | [.lst ds], R => match boolsOf ds with
    | some bs => R (.v (.bl (bs.any id)))
    | none => False
  | _, _ => False
def kSum : List D → (D → Prop) → Prop
  | [.lst ds], R => match intsOf ds with
    | some ns => R (.v (.int ns.sum))
    | none => False
  | _, _ => False
def kAbs : List D → (D → Prop) → Prop
  | [.v (.int i)], R => R (.v (.int (if i < 0 then -i else i)))
  | _, _ => False
def kInt : List D → (D → Prop) → Prop
  | [.v (.int i)], R => R (.v (.int i))
  | [.v (.bl b)], R => R (.v (.int (if b then 1 else 0)))
  | _, _ => False
theorem bools_v : ∀ {ds : List D} {bs : List Bool} {F : List Addr} {xs : List V}, boolsOf ds = some bs → RepL h H ds F xs → xs = bs.map V.bl
  | [], bs, F, xs, e, r => by cases e; exact r.2
  | d :: ds, bs, F, xs, e, r => by
    unfold boolsOf at e
    split at e
    · cases ‹_ :: _ = []›
    · rename_i b ds0 ed
      cases ed
      split at e
      · rename_i bs' e2
        cases e
        obtain ⟨F1, F2, x, ys, _, ex, r1, r2⟩ := r
        rw [ex, r1.2, bools_v e2 r2]; rfl
      · cases e
    · cases e
theorem ints_v : ∀ {ds : List D} {bs : List Int} {F : List Addr} {xs : List V}, intsOf ds = some bs → RepL h H ds F xs → xs = bs.map V.int
  | [], bs, F, xs, e, r => by cases e; exact r.2
  | d :: ds, bs, F, xs, e, r => by
    unfold intsOf at e
    split at e
    · cases ‹_ :: _ = []›
    · rename_i b ds0 ed
      cases ed
      split at e
      · rename_i bs' e2
        cases e
        obtain ⟨F1, F2, x, ys, _, ex, r1, r2⟩ := r
        rw [ex, r1.2, ints_v e2 r2]; rfl
      · cases e
    · cases e
theorem strs_v : ∀ {ds : List D} {bs : List Str} {F : List Addr} {xs : List V}, strsOf ds = some bs → RepL h H ds F xs → xs = bs.map V.str
  | [], bs, F, xs, e, r => by cases e; exact r.2
  | d :: ds, bs, F, xs, e, r => by
    unfold strsOf at e
    split at e
    · cases ‹_ :: _ = []›
    · rename_i b ds0 ed
      cases ed
      split at e
      · rename_i bs' e2
        cases e
        obtain ⟨F1, F2, x, ys, _, ex, r1, r2⟩ := r
        rw [ex, r1.2, strs_v e2 r2]; rfl
      · cases e
    · cases e
/-- a rule for a call that is proved with the state at hand -/
def SndX (X : Cx) (h : Hd) (v : Value) (k : List D → (D → Prop) → Prop) : Prop := ∀ (pins : List (Addr × Obj)) (s : Shared) (σ : L2.St) (H : Hp) (R : D → Prop) (Q : VK) (ds : List D) (F : List Addr) (vs : List V) (us : List Value), Inv X pins σ H s → HandOk h H → k ds R → RepL h H ds F vs → (∀ a ∈ F, a ≠ h.p) → Vals vs us → PostF h H R Q →
  wpAny (model X.prog X.w) X.A (call v us) (EP X pins σ Q) X.xe s
theorem sndx_of {v : Value} {r : List V → Hp → VK → Prop} {k : List D → (D → Prop) → Prop} (hc : CallR X v r) (hs : SndL h r k) : SndX X h v k :=
  fun pins s σ H R Q ds F vs us I ho w q np rv c => hc pins s σ H vs us Q I rv (hs H R Q ds F vs ho w q np c)
def tX (X : Cx) (h : Hd) (v : Value) (t : TA) : TE := fun σ H Q => t σ H fun vs H1 => ∀ pins s us, Inv X pins σ H1 s → Vals vs us → wpAny (model X.prog X.w) X.A (call v us) (EP X pins σ Q) X.xe s
variable {e : Expr} {es : List Expr} {x : Str} {p pos : Pos} {g : WA}
theorem pxb {id : String} {k : List D → (D → Prop) → Prop} (hs : SndX X h (.builtin id) k) (hg : Gl X x) (hm : X.mg x = none) (hv : bootBuiltins x = some (.builtin id)) (ha : PA X (e :: es) (tAP h g))
    (hn : x ≠ "__name__" := by decide) (hdb : (x == ("__debug__" : Str)) = false := by decide) (he : starEach (e :: es) X.env = (false, eval e X.env) :: starEach es X.env := by rfl) (hpl : (backTo pos (starEach es X.env)).any (·.1) = false := by rfl) : PE X (.Call (.Name x p) (e :: es) [] pos) (tF h (wL k g)) := by
  refine ⟨fun pins s σ H Q I w => ?_⟩
  obtain ⟨G, ρ, Fs, R, E, w, c⟩ := w
  refine wpAny_Call_Name_kw (ld_blt I hg hm hv ?_ hn hdb)
  refine PyProof.Rows.callWith_builtin1 (thn (ha.run pos pins s σ H (fun vs H1 => ∃ ds F, Keep h H H1 ∧ k ds R ∧ RepL h H1 ds F vs ∧ ∀ a ∈ F, a ≠ h.p) I ⟨G, ρ, Fs, _, E, w, fun ds wd vs H1 F k1 q np => ⟨ds, F, k1, wd, q, np⟩⟩) fun us s1 ⟨vs, H1, I1, r1, ds, F, k1, wd, q, np⟩ => ?_) he hpl
  exact hs pins s1 σ H1 R Q ds F vs us I1 (E.after k1).hand wd q np r1 (PostF.back k1 E.hand c)
theorem pxt {T : String} {k : List D → (D → Prop) → Prop} (hs : SndX X h (.type T) k) (hg : Gl X x) (hm : X.mg x = none) (hv : bootBuiltins x = some (.type T)) (ha : PA X (e :: es) (tAP h g))
    (hn : x ≠ "__name__" := by decide) (hdb : (x == ("__debug__" : Str)) = false := by decide) (he : starEach (e :: es) X.env = (false, eval e X.env) :: starEach es X.env := by rfl) (hpl : (backTo pos (starEach es X.env)).any (·.1) = false := by rfl) : PE X (.Call (.Name x p) (e :: es) [] pos) (tF h (wL k g)) := by
  refine ⟨fun pins s σ H Q I w => ?_⟩
  obtain ⟨G, ρ, Fs, R, E, w, c⟩ := w
  refine wpAny_Call_Name_kw (ld_blt I hg hm hv ?_ hn hdb)
  refine PyProof.Rows.callWith_type1 (thn (ha.run pos pins s σ H (fun vs H1 => ∃ ds F, Keep h H H1 ∧ k ds R ∧ RepL h H1 ds F vs ∧ ∀ a ∈ F, a ≠ h.p) I ⟨G, ρ, Fs, _, E, w, fun ds wd vs H1 F k1 q np => ⟨ds, F, k1, wd, q, np⟩⟩) fun us s1 ⟨vs, H1, I1, r1, ds, F, k1, wd, q, np⟩ => ?_) he hpl
  exact hs pins s1 σ H1 R Q ds F vs us I1 (E.after k1).hand wd q np r1 (PostF.back k1 E.hand c)
theorem repL1 {d : D} {F : List Addr} {vs : List V} (q : RepL h H [d] F vs) : ∃ v, vs = [v] ∧ Rep h H d F v := by
  obtain ⟨F1, F2, x, ys, e1, e2, r1, r2⟩ := q
  obtain ⟨f2, f3⟩ := r2
  subst f2 f3
  rw [List.append_nil] at e1
  subst e1
  exact ⟨x, e2, r1⟩
theorem x_sorted (hcalm : X.calm = true) (hu : X.A.units + 64 < cLine) : SndX X h (.builtin "sorted") kSorted := by
  intro pins s σ H R Q ds F vs us I ho w q np rv c
  unfold kSorted at w
  split at w
  · rename_i d
    split at w
    · rename_i ds' e
      obtain ⟨ok, w⟩ := w
      obtain ⟨v, rfl, q'⟩ := repL1 q
      obtain ⟨u, rfl, ru⟩ := vals1 rv
      obtain ⟨xs, r, hc⟩ := coll I hcalm q' ru e ok.imm ok.len
      refine sorted_coll I hu r ok (fun E R' hR => hc _ E R' (I.ok.hd hcalm) hR) fun a xs' n r' => ?_
      exact c.lst w r' a n
    · exact w.elim
  · exact w.elim
end
end PL

namespace PL
open PySem PySem.Spec PyProof.Rows L2

/-! ### stores in tables -/
section
variable {h : Hd} {H : Hp} {κ : Type} [DecidableEq κ]
theorem putK_ne {p : κ × V} {r : List (κ × V)} {k : κ} {v : V} (e : ¬ p.1 = k) : putK (p :: r) k v = p :: putK r k v := by
  unfold putK
  rw [List.any_cons, decide_eq_false e, Bool.false_or]
  split
  · rw [List.map_cons, if_neg e]
  · rfl
theorem map_out {r : List (κ × V)} {k : κ} {v : V} (e : ¬ k ∈ r.map (·.1)) : r.map (fun kv => if kv.1 = k then (kv.1, v) else kv) = r := by
  induction r with
  | nil => rfl
  | cons p r ih =>
    rw [List.map_cons, List.mem_cons, not_or] at e
    rw [List.map_cons, if_neg (fun z => e.1 z.symm), ih e.2]
theorem putK_eq {p : κ × V} {r : List (κ × V)} {k : κ} {v : V} (e : p.1 = k) (n : ¬ k ∈ r.map (·.1)) : putK (p :: r) k v = (p.1, v) :: r := by
  unfold putK
  rw [List.any_cons, decide_eq_true e, Bool.true_or, if_pos rfl, List.map_cons, if_pos e, map_out n]
theorem putD_keys {α : Type} : ∀ {ks : List κ} {ds : List α} {k : κ} {d : α}, ks.length = ds.length → ∀ x, x ∈ (putD ks ds k d).1 ↔ x ∈ ks ∨ x = k
  | [], [], k, d, _, x => by simp [putD]
  | [], _ :: _, k, d, e, x => by simp at e
  | _ :: _, [], k, d, e, x => by simp at e
  | k0 :: ks, d0 :: ds, k, d, e, x => by
    show x ∈ (if k0 = k then (k0 :: ks, d :: ds) else (k0 :: (putD ks ds k d).1, d0 :: (putD ks ds k d).2)).1 ↔ _
    by_cases c : k0 = k
    · rw [if_pos c]
      subst c
      simp only [List.mem_cons]
      exact ⟨.inl, fun z => z.elim id fun q => .inl q⟩
    · rw [if_neg c]
      simp only [List.mem_cons]
      rw [putD_keys (by simpa using e) x]
      exact ⟨fun z => z.elim (fun q => .inl (.inl q)) fun q => q.elim (fun q => .inl (.inr q)) .inr, fun z => z.elim (fun q => q.elim .inl fun q => .inr (.inl q)) fun q => .inr (.inr q)⟩
theorem putD_nodup {α : Type} : ∀ {ks : List κ} {ds : List α} {k : κ} {d : α}, ks.length = ds.length → ks.Nodup → (putD ks ds k d).1.Nodup
  | [], [], k, d, _, _ => by simp [putD]
  | [], _ :: _, k, d, e, _ => by simp at e
  | _ :: _, [], k, d, e, _ => by simp at e
  | k0 :: ks, d0 :: ds, k, d, e, n => by
    show (if k0 = k then (k0 :: ks, d :: ds) else (k0 :: (putD ks ds k d).1, d0 :: (putD ks ds k d).2)).1.Nodup
    by_cases c : k0 = k
    · rw [if_pos c]; exact n
    · rw [if_neg c]
      obtain ⟨n1, n2⟩ := List.nodup_cons.mp n
      refine List.nodup_cons.mpr ⟨fun m => ?_, putD_nodup (by simpa using e) n2⟩
      rcases (putD_keys (by simpa using e) k0).mp m with z | z
      · exact n1 z
      · exact c z
theorem put_rep : ∀ {kvs : List (κ × V)} {ds : List D} {F F' : List Addr} {k : κ} {d : D} {v : V}, (kvs.map (·.1)).Nodup → RepL h H ds F (kvs.map (·.2)) → Rep h H d F' v →
    (putK kvs k v).map (·.1) = (putD (kvs.map (·.1)) ds k d).1 ∧ ∃ F'', RepL h H (putD (kvs.map (·.1)) ds k d).2 F'' ((putK kvs k v).map (·.2)) ∧ (∀ a ∈ F'', a ∈ F ∨ a ∈ F') ∧
      (F.Nodup → F'.Nodup → (∀ a ∈ F, a ∉ F') → F''.Nodup)
  | [], ds, F, F', k, d, v, nd, r, q => by
    have hd : ds = [] := List.length_eq_zero_iff.mp r.length.symm
    subst hd
    exact ⟨rfl, F', RepL.one q, fun a ha => .inr ha, fun _ n _ => n⟩
  | p :: kvs, [], F, F', k, d, v, nd, r, q => by
    have := r.2
    simp at this
  | p :: kvs, d0 :: ds, F, F', k, d, v, nd, r, q => by
    obtain ⟨F1, F2, x, ys, e1, e2, r1, r2⟩ := r
    rw [List.map_cons] at e2
    injection e2 with e2 e3
    subst e2 e3
    rw [List.map_cons] at nd
    obtain ⟨n1, n2⟩ := List.nodup_cons.mp nd
    show _ = (if p.1 = k then (p.1 :: kvs.map (·.1), d :: ds) else (p.1 :: (putD (kvs.map (·.1)) ds k d).1, d0 :: (putD (kvs.map (·.1)) ds k d).2)).1 ∧
      ∃ F'', RepL h H (if p.1 = k then (p.1 :: kvs.map (·.1), d :: ds) else (p.1 :: (putD (kvs.map (·.1)) ds k d).1, d0 :: (putD (kvs.map (·.1)) ds k d).2)).2 F'' _ ∧ _
    by_cases c : p.1 = k
    · rw [if_pos c, putK_eq c (by rw [← c]; exact n1)]
      refine ⟨rfl, F' ++ F2, ⟨F', F2, v, _, rfl, rfl, q, r2⟩, fun a ha => ?_, fun nF nF' dj => ?_⟩
      · rcases List.mem_append.mp ha with z | z
        · exact .inr z
        · exact .inl (by rw [e1]; exact List.mem_append_right _ z)
      · rw [e1] at nF dj
        obtain ⟨_, m2, _⟩ := List.nodup_append.mp nF
        exact List.nodup_append.mpr ⟨nF', m2, fun a ha b hb z => dj b (List.mem_append_right _ hb) (z ▸ ha)⟩
    · rw [if_neg c, putK_ne c]
      obtain ⟨i1, F3, i2, i3, i4⟩ := put_rep (k := k) n2 r2 q
      refine ⟨by rw [List.map_cons, i1], F1 ++ F3, ⟨F1, F3, p.2, _, rfl, rfl, r1, i2⟩, fun a ha => ?_, fun nF nF' dj => ?_⟩
      · rcases List.mem_append.mp ha with z | z
        · exact .inl (by rw [e1]; exact List.mem_append_left _ z)
        · rcases i3 a z with y | y
          · exact .inl (by rw [e1]; exact List.mem_append_right _ y)
          · exact .inr y
      · rw [e1] at nF dj
        obtain ⟨m1, m2, m3⟩ := List.nodup_append.mp nF
        refine List.nodup_append.mpr ⟨m1, i4 m2 nF' fun a ha => dj a (List.mem_append_right _ ha), fun a ha b hb z => ?_⟩
        subst z
        rcases i3 a hb with y | y
        · exact m3 a ha a y rfl
        · exact dj a (List.mem_append_left _ ha) y
/-- an item stored by place -/
theorem set_rep : ∀ {ds : List D} {F F' : List Addr} {xs : List V} {i : Nat} {d : D} {v : V}, RepL h H ds F xs → Rep h H d F' v →
    ∃ F'', RepL h H (ds.set i d) F'' (xs.set i v) ∧ (∀ a ∈ F'', a ∈ F ∨ a ∈ F') ∧ (F.Nodup → F'.Nodup → (∀ a ∈ F, a ∉ F') → F''.Nodup)
  | [], F, F', xs, i, d, v, r, q => ⟨F, by rw [r.2]; exact ⟨r.1, rfl⟩, fun _ ha => .inl ha, fun n _ _ => n⟩
  | d0 :: ds, F, F', xs, 0, d, v, r, q => by
    obtain ⟨F1, F2, x, ys, e1, e2, r1, r2⟩ := r
    rw [e2]
    refine ⟨F' ++ F2, ⟨F', F2, v, ys, rfl, rfl, q, r2⟩, fun a ha => ?_, fun nF nF' dj => ?_⟩
    · rcases List.mem_append.mp ha with z | z
      · exact .inr z
      · exact .inl (by rw [e1]; exact List.mem_append_right _ z)
    · rw [e1] at nF dj
      obtain ⟨_, m2, _⟩ := List.nodup_append.mp nF
      exact List.nodup_append.mpr ⟨nF', m2, fun a ha b hb z => dj b (List.mem_append_right _ hb) (z ▸ ha)⟩
  | d0 :: ds, F, F', xs, i + 1, d, v, r, q => by
    obtain ⟨F1, F2, x, ys, e1, e2, r1, r2⟩ := r
    rw [e2]
    obtain ⟨F3, i2, i3, i4⟩ := set_rep (i := i) r2 q
    refine ⟨F1 ++ F3, ⟨F1, F3, x, _, rfl, rfl, r1, i2⟩, fun a ha => ?_, fun nF nF' dj => ?_⟩
    · rcases List.mem_append.mp ha with z | z
      · exact .inl (by rw [e1]; exact List.mem_append_left _ z)
      · rcases i3 a z with y | y
        · exact .inl (by rw [e1]; exact List.mem_append_right _ y)
        · exact .inr y
    · rw [e1] at nF dj
      obtain ⟨m1, m2, m3⟩ := List.nodup_append.mp nF
      refine List.nodup_append.mpr ⟨m1, i4 m2 nF' fun a ha => dj a (List.mem_append_right _ ha), fun a ha b hb z => ?_⟩
      subst z
      rcases i3 a hb with y | y
      · exact m3 a ha a y rfl
      · exact dj a (List.mem_append_left _ ha) y
end

/-! ### more calls -/
def instRes (t T : String) : Option Bool := if T ∈ ["int", "bool", "str", "tuple", "list", "dict"] ∧ t ∈ ["NoneType", "int", "bool", "str", "tuple", "list", "dict"] then some (t == T || (t == "bool" && T == "int")) else none
def tyN : D → Option String
  | .v .non => some "NoneType"
  | .v (.bl _) => some "bool"
  | .v (.int _) => some "int"
  | .v (.str _) => some "str"
  | .tup _ _ => some "tuple"
  | .lst _ => some "list"
  | _ => none
def kInst : List D → (D → Prop) → Prop
  | [d, .v (.ty T)], R => match tyN d with
    | some t => match instRes t T with
      | some b => R (.v (.bl b))
      | none => False
    | none => False
  | _, _ => False
def pairsD : List D → Option (List (Key × D))
  | [] => some []
  | .tup false [k, v] :: ds => match k.key, pairsD ds with
    | some k, some ps => some ((k, v) :: ps)
    | _, _ => none
  | _ :: _ => none
def mergeD (ks : List Key) (ds : List D) : List (Key × D) → List Key × List D
  | [] => (ks, ds)
  | p :: ps => mergeD (putD ks ds p.1 p.2).1 (putD ks ds p.1 p.2).2 ps
def kDict : List D → (D → Prop) → Prop
  | [.lst ds], R => immL ds = true ∧ match pairsD ds with
    | some ps => R (.dic (mergeD [] [] ps).1 (mergeD [] [] ps).2)
    | none => False
  | _, _ => False
section
variable {X : Cx} {H : Hp} {h : Hd}
theorem tupAt_ty {a : Addr} {xs : List V} : ∀ {z}, TupAt H z a xs → TyX X.K H (.ref a) (.type "tuple")
  | false, q => .base (.tup q)
  | true, ⟨o, _, q⟩ => .fTuple q
theorem tyN_ok {d : D} {F : List Addr} {v : V} {t : String} (q : Rep h H d F v) (e : tyN d = some t) : TyX X.K H v (.type t) := by
  unfold tyN at e
  split at e
  · cases e; rw [q.2]; exact .base .non
  · cases e; rw [q.2]; exact .base (.bl _)
  · cases e; rw [q.2]; exact .base (.int _)
  · cases e; rw [q.2]; exact .base (.str _)
  · cases e; obtain ⟨a, xs, e1, e2, _⟩ := q; rw [e1]; exact tupAt_ty e2
  · cases e; obtain ⟨a, xs, F1, e1, _, e2, _⟩ := q; rw [e1]; exact .base (.lst e2)
  · cases e
theorem inst_kit {K : PySem.W.Frag} {t T : String} {b : Bool} (e : instRes t T = some b) : PySem.W.kitOne K (.type t) (.type T) = some b := by
  unfold instRes at e
  split at e
  · rename_i hm
    obtain ⟨h1, h2⟩ := hm
    cases e
    simp only [List.mem_cons, List.not_mem_nil, or_false] at h1 h2
    rcases h1 with rfl | rfl | rfl | rfl | rfl | rfl <;> rcases h2 with rfl | rfl | rfl | rfl | rfl | rfl | rfl <;> exact kit_ty (by decide +kernel)
  · cases e
theorem s_inst : SndL h (rIsi X.K) kInst := by
  intro H R Q ds F vs ho w q np c
  unfold kInst at w
  split at w
  · rename_i d T
    split at w
    · rename_i t et
      split at w
      · rename_i b eb
        obtain ⟨F1, F2, x, ys, e1, e2, r1, F3, F4, y, zs, e3, e4, r2, e5, e6⟩ := q
        subst e6 e4 e2
        rw [r2.2]
        exact ⟨x, _, _, _, b, rfl, .ty T, tyN_ok r1 et, inst_kit eb, c.atom w⟩
      · exact w.elim
    · exact w.elim
  · exact w.elim
theorem s_all {K : PySem.W.Frag} : SndL h (rAll K) kAll := by
  intro H R Q ds F vs ho w q np c
  unfold kAll at w
  split at w
  · split at w
    · rename_i bs e
      obtain ⟨v, rfl, a, xs, F1, rfl, _, e3, r⟩ := repL1 q
      rw [bools_v e r] at e3
      exact ⟨a, bs, rfl, .inl (.inl e3), c.atom w⟩
    · exact w.elim
  · exact w.elim
theorem s_any {K : PySem.W.Frag} : SndL h (rAny K) kAny := by
  intro H R Q ds F vs ho w q np c
  unfold kAny at w
  split at w
  · split at w
    · rename_i bs e
      obtain ⟨v, rfl, a, xs, F1, rfl, _, e3, r⟩ := repL1 q
      rw [bools_v e r] at e3
      exact ⟨a, bs, rfl, .inl (.inl e3), c.atom w⟩
    · exact w.elim
  · exact w.elim
theorem s_sum {K : PySem.W.Frag} : SndL h (rSum K) kSum := by
  intro H R Q ds F vs ho w q np c
  unfold kSum at w
  split at w
  · split at w
    · rename_i bs e
      obtain ⟨v, rfl, a, xs, F1, rfl, _, e3, r⟩ := repL1 q
      rw [ints_v e r] at e3
      exact ⟨a, bs, rfl, .inl (.inl e3), c.atom w⟩
    · exact w.elim
  · exact w.elim
theorem s_abs : SndL h (fun xs H Q => ∃ i, xs = [.int i] ∧ Q (.int (if i < 0 then -i else i)) H) kAbs := by
  intro H R Q ds F vs ho w q np c
  unfold kAbs at w
  split at w
  · obtain ⟨v, rfl, r⟩ := repL1 q
    rw [r.2]
    exact ⟨_, rfl, c.atom w⟩
  · exact w.elim
theorem s_int : SndL h (fun xs H Q => (∃ i, xs = [.int i] ∧ Q (.int i) H) ∨ ∃ k, xs = [.bl k] ∧ Q (.int (if k then 1 else 0)) H) kInt := by
  intro H R Q ds F vs ho w q np c
  unfold kInt at w
  split at w
  · obtain ⟨v, rfl, r⟩ := repL1 q
    rw [r.2]
    exact .inl ⟨_, rfl, c.atom w⟩
  · obtain ⟨v, rfl, r⟩ := repL1 q
    rw [r.2]
    exact .inr ⟨_, rfl, c.atom w⟩
  · exact w.elim
theorem s_tuple {K : PySem.W.Frag} : SndL h (fun xs H Q => ∃ p ys, xs = [.ref p] ∧ ((SqL K H p ys ∧ ∀ l, H l = none → Q (.ref l) (upd H l (.tup ys))) ∨ (SqT K H p ys ∧ Q (.ref p) H))) kTuple := by
  intro H R Q ds F vs ho w q np c
  unfold kTuple at w
  split at w
  · obtain ⟨v, rfl, a, xs, F1, rfl, _, e3, r⟩ := repL1 q
    have := RepL.imm _ _ _ w.1 r
    subst this
    exact ⟨a, xs, rfl, .inl ⟨.inl (.inl e3), fun l n => c.tup w.2 r rfl l n⟩⟩
  · obtain ⟨v, rfl, a, xs, rfl, e3, r⟩ := repL1 q
    have := RepL.imm _ _ _ w.1 r
    subst this
    exact ⟨a, xs, rfl, .inr ⟨e3.sq, c _ w.2 _ H [] (Keep.refl H) ⟨a, xs, rfl, e3, r⟩ (fun _ z => nomatch z) List.nodup_nil⟩⟩
  · exact w.elim
theorem x_len : SndX X h (.builtin "len") kLen := by
  intro pins s σ H R Q ds F vs us I ho w q np rv c
  unfold kLen at w
  split at w
  · obtain ⟨v, rfl, a, xs, F1, rfl, _, e3, r⟩ := repL1 q
    refine call_len_seq pins s σ H _ _ _ I rv ⟨a, xs, rfl, .inl (.inl (.inl e3)), ?_⟩
    rw [r.length]; exact c.atom w
  · obtain ⟨v, rfl, a, xs, rfl, e3, r⟩ := repL1 q
    refine call_len_seq pins s σ H _ _ _ I rv ⟨a, xs, rfl, .inr e3.sq, ?_⟩
    rw [r.length]; exact c.atom w
  · obtain ⟨v, rfl, r⟩ := repL1 q
    rw [r.2] at rv
    exact call_len_str pins s σ H _ _ _ I rv ⟨_, rfl, w.1, c.atom w.2⟩
  · obtain ⟨v, rfl, a, kvs, F1, rfl, _, e3, ⟨e4, _⟩, r⟩ := repL1 q
    obtain ⟨u, rfl, ru⟩ := vals1 rv
    cases ru
    refine d_len I e3 fun t s' I' => ⟨.int kvs.length, H, I', ⟨t, rfl⟩, ?_⟩
    have : kvs.length = (kvs.map (·.1)).length := by rw [List.length_map]
    rw [this, e4]; exact c.atom w
  · exact w.elim
theorem x_list (hcalm : X.calm = true) : SndX X h (.type "list") kList := by
  intro pins s σ H R Q ds F vs us I ho w q np rv c
  unfold kList at w
  split at w
  rotate_left
  · exact w.elim
  rename_i d
  split at w
  rotate_left
  · exact w.elim
  rename_i ds' e
  obtain ⟨im, hl, w⟩ := w
  obtain ⟨v, rfl, r⟩ := repL1 q
  unfold gath at e
  split at e
  · cases e
    obtain ⟨a, xs, F1, rfl, _, e3, r⟩ := r
    have := RepL.imm _ _ _ im r
    subst this
    exact call_list_of pins s σ H _ _ _ I rv ⟨a, xs, rfl, .inl (.inl (.inl e3)), fun l n => c.lst w r l n⟩
  · cases e
    obtain ⟨a, xs, rfl, e3, r⟩ := r
    have := RepL.imm _ _ _ im r
    subst this
    exact call_list_of pins s σ H _ _ _ I rv ⟨a, xs, rfl, .inr e3.sq, fun l n => c.lst w r l n⟩
  · rename_i z
    cases e
    rw [r.2] at rv
    obtain ⟨u, rfl, ru⟩ := vals1 rv
    obtain ⟨t, rfl⟩ := ru
    have hz : z.cps.size ≤ sizeLine := by
      have : (signs z).length ≤ sizeLine := hl
      unfold signs at this
      rw [List.length_map, Array.length_toList] at this
      exact this
    refine call_list_str (I.ok.hd hcalm) z t (fun h' tk acc c' k hS hacc => ?_) hz
    have rvs : Vals (z.cps.toList.map fun c => V.str ⟨#[c]⟩) acc.toList := by
      refine vals_of_at (by rw [List.length_map, Array.length_toList, Array.length_toList]; exact hacc.1.symm) fun j x w e1 e2 => ?_
      rw [List.getElem?_map, Array.getElem?_toList] at e1
      rw [Array.getElem?_toList] at e2
      obtain ⟨c, ec, ex⟩ := Option.map_eq_some_iff.mp e1
      obtain ⟨c', t', hc', hw⟩ := hacc.2 j w e2
      rw [ec] at hc'
      cases hc'
      subst hw ex
      exact ⟨t', rfl⟩
    refine ⟨.ref s.heap.objs.size, upd H s.heap.objs.size (.lst (z.cps.toList.map fun c => V.str ⟨#[c]⟩)), I.laid k (Nat.le_refl _) (show ObjOk X.prog X.w _ _ _ (.lst _) from ⟨?_, acc.toList, c', rvs, ?_⟩), rfl, ?_⟩
    · rw [List.length_map, Array.length_toList]; exact hz
    · rw [Array.toArray_toList]; exact hS
    · exact c.lst w (repL_signs _) _ (I.hok.fresh (Nat.le_refl _))
  · rename_i ks ds2
    cases e
    obtain ⟨a, kvs, F1, rfl, _, e3, ⟨e4, _⟩, r⟩ := r
    refine call_listD hcalm pins s σ H _ _ _ I rv ⟨a, kvs, rfl, e3, fun l n => ?_⟩
    have : (kvs.map fun kv => kV kv.1) = ks.map kV := by rw [← e4, List.map_map]; rfl
    rw [this]
    exact c.lst w (repL_keys ks) l n
  · cases e
theorem mergeD_rep : ∀ {kds : List (Key × D)} {more : List (Key × V)} {kvs : List (Key × V)} {ds : List D}, Paired (fun (p : Key × D) (q : Key × V) => p.1 = q.1 ∧ Rep h H p.2 [] q.2) kds more → (kvs.map (·.1)).Nodup → RepL h H ds [] (kvs.map (·.2)) →
    ((mergeK kvs more).map (·.1) = (mergeD (kvs.map (·.1)) ds kds).1 ∧ ((mergeK kvs more).map (·.1)).Nodup) ∧ RepL h H (mergeD (kvs.map (·.1)) ds kds).2 [] ((mergeK kvs more).map (·.2))
  | [], _, kvs, ds, .nil, nd, r => ⟨⟨rfl, nd⟩, r⟩
  | p :: kds, q :: more, kvs, ds, .cons a t, nd, r => by
    obtain ⟨a1, a2⟩ := a
    obtain ⟨i1, F, i2, i3, _⟩ := put_rep (k := q.1) nd r a2
    have hF : F = [] := List.eq_nil_iff_forall_not_mem.mpr fun b hb => by rcases i3 b hb with z | z <;> cases z
    subst hF
    have l : (kvs.map (·.1)).length = ds.length := by rw [r.length.symm, List.length_map, List.length_map]
    have n2 : ((putK kvs q.1 q.2).map (·.1)).Nodup := by rw [i1]; exact putD_nodup l nd
    have z := mergeD_rep (kvs := putK kvs q.1 q.2) t n2 i2
    show ((mergeK (putK kvs q.1 q.2) more).map (·.1) = (mergeD (putD (kvs.map (·.1)) ds p.1 p.2).1 (putD (kvs.map (·.1)) ds p.1 p.2).2 kds).1 ∧ _) ∧ RepL h H (mergeD (putD (kvs.map (·.1)) ds p.1 p.2).1 (putD (kvs.map (·.1)) ds p.1 p.2).2 kds).2 [] _
    rw [a1, ← i1]
    exact z
theorem pairs_rep : ∀ {ds : List D} {kds : List (Key × D)} {xs : List V}, pairsD ds = some kds → immL ds = true → RepL h H ds [] xs →
    ∃ (ps : List Addr) (kvs : List (Key × V)), xs = ps.map V.ref ∧ Paired (fun p kv => H p = some (.tup [kV kv.1, kv.2])) ps kvs ∧ Paired (fun (p : Key × D) (q : Key × V) => p.1 = q.1 ∧ Rep h H p.2 [] q.2) kds kvs
  | [], kds, xs, e, _, r => by
    cases e
    exact ⟨[], [], r.2, .nil, .nil⟩
  | d :: ds, kds, xs, e, im, r => by
    unfold pairsD at e
    split at e
    · cases ‹_ :: _ = []›
    · rename_i k v ds' ed
      cases ed
      split at e
      · rename_i k' ps e1 e2
        cases e
        obtain ⟨F1, F2, x, ys, eF, ex, r1, r2⟩ := r
        obtain ⟨f1, f2⟩ := List.append_eq_nil_iff.mp eF.symm
        subst f1 f2
        have im' : ((D.tup false [k, v]).imm && immL ds) = true := im
        rw [Bool.and_eq_true] at im'
        obtain ⟨ps', kvs, g1, g2, g3⟩ := pairs_rep e2 im'.2 r2
        obtain ⟨a, zs, rfl, ea, F3, F4, y1, zs2, eF2, ez, q1, F5, F6, y2, zs3, eF3, ez2, q2, q3, q4⟩ := r1
        obtain ⟨f3, f4⟩ := List.append_eq_nil_iff.mp eF2.symm
        subst f3 f4
        obtain ⟨f5, f6⟩ := List.append_eq_nil_iff.mp eF3.symm
        subst f5 f6
        rw [q4] at ez2
        rw [ez2] at ez
        rw [ez, key_v e1 q1] at ea
        exact ⟨a :: ps', (k', y2) :: kvs, by rw [ex, g1]; rfl, .cons ea g2, .cons ⟨rfl, q2⟩ g3⟩
      · cases e
    · cases e
theorem PostF.dic {R : D → Prop} {Q : VK} (p : PostF h H R Q) {ks : List Key} {ds : List D} {kvs : List (Key × V)} (r : R (.dic ks ds)) (e : kvs.map (·.1) = ks ∧ ks.Nodup) (q : RepL h H ds [] (kvs.map (·.2))) (a : Addr) (n : H a = none) : Q (.ref a) (upd H a (.dK kvs)) := by
  refine p _ r _ _ [a] (Keep.new n) ⟨a, kvs, [], rfl, rfl, .inl upd_same, e, q.keep (Keep.new n) (fun _ z => nomatch z)⟩ (fun b hb => ?_) (by simp)
  have e : b = a := by simpa using hb
  subst e
  exact ⟨n, fun o u z => by rw [upd_same] at z; cases z⟩
theorem s_dict {K : PySem.W.Frag} : SndL h (fun xs H Q => ∃ (a : Addr) (ps : List Addr) (kvs : List (Key × V)), xs = [.ref a] ∧ SqL K H a (ps.map V.ref) ∧ Paired (fun p kv => SqT K H p [kV kv.1, kv.2]) ps kvs ∧
    ∀ p, H p = none → Q (.ref p) (upd H p (.dK (mergeK [] kvs)))) kDict := by
  intro H R Q ds F vs ho w q np c
  unfold kDict at w
  split at w
  · obtain ⟨im, w⟩ := w
    split at w
    · rename_i kds e
      obtain ⟨v, rfl, a, xs, F1, rfl, _, e3, r⟩ := repL1 q
      have := RepL.imm _ _ _ im r
      subst this
      obtain ⟨ps, kvs, g1, g2, g3⟩ := pairs_rep e im r
      rw [g1] at e3
      obtain ⟨⟨m1, m2⟩, m3⟩ := mergeD_rep (kvs := []) (ds := []) g3 List.nodup_nil ⟨rfl, rfl⟩
      exact ⟨a, ps, kvs, rfl, .inl (.inl e3), Paired.mapP g2 (fun _ _ z => .inl (.inl z)), fun p n => c.dic w ⟨m1, m1 ▸ m2⟩ m3 p n⟩
    · exact w.elim
  · exact w.elim
end
end PL

namespace PL
open PySem PySem.Spec PyProof.Rows L2

/-! ### displays -/
def wTup (g : WA) : WE := fun ρ R => g ρ fun ds => ds.length ≤ sizeLine ∧ R (.tup false ds)
def wLst (g : WA) : WE := fun ρ R => g ρ fun ds => ds.length ≤ sizeLine ∧ R (.lst ds)
def wDic0 : WE := fun _ R => R (.dic [] [])
def wDit0 : WE := fun _ R => R (.dit [] [])
def wIf (c : WT) (a b : WE) : WE := fun ρ R => c ρ fun k => if k = true then a ρ R else b ρ R
def asB (d : D) (K : Bool → Prop) : Prop := match d with
  | .v (.bl b) => K b
  | _ => False
def wTB (f : WE) : WT := fun ρ R => f ρ fun d => asB d R
def wAndV (a b : WE) : WE := fun ρ R => a ρ fun d => asB d fun c => if c = true then b ρ R else R (.v (.bl false))
def wOrV (a b : WE) : WE := fun ρ R => a ρ fun d => asB d fun c => if c = true then R (.v (.bl true)) else b ρ R
def wAndT (a b : WT) : WT := fun ρ R => a ρ fun c => if c = true then b ρ R else R false
def wOrT (a b : WT) : WT := fun ρ R => a ρ fun c => if c = true then R true else b ρ R
def wNotT (a : WT) : WT := fun ρ R => a ρ fun c => R (!c)
section
variable {X : Cx} {a b c e : Expr} {es rest : List Expr} {pos : Pos} {h : Hd} {fa fb f : WE} {g : WA} {tc ta tb : WT}
theorem ptup {x1} (ha : PA X es (tAF h g)) : PE X (.Tuple es x1 pos) (tF h (wTup g)) := pe_imp (pe_tup ha) fun σ H Q w => by
  obtain ⟨G, ρ, Fs, R, E, w, c⟩ := w
  refine ⟨G, ρ, Fs, _, E, w, fun ds wd vs H1 F k1 q fr nd => ⟨by rw [q.length]; exact wd.1, fun p n => ?_⟩⟩
  have hn : ∀ {a : Addr}, H a = none → a ≠ h.p := fun z => np_of E.hand z
  refine c _ wd.2 _ _ F (k1.trans (Keep.new n)) ⟨p, vs, rfl, upd_same, q.keep (Keep.new n) fun a ha => hn (fr a ha).1⟩ (fun a ha => ⟨(fr a ha).1, ?_⟩) nd
  exact nf_keep (Keep.new n) (hn (fr a ha).1) (RepL.there _ _ _ q a ha) (fr a ha).2
theorem plst (ha : PA X es (tAF h g)) : PE X (.List es pos) (tF h (wLst g)) := pe_imp (pe_lst ha) fun σ H Q w => by
  obtain ⟨G, ρ, Fs, R, E, w, c⟩ := w
  refine ⟨G, ρ, Fs, _, E, w, fun ds wd vs H1 F k1 q fr nd => ⟨by rw [q.length]; exact wd.1, fun p n => ?_⟩⟩
  have hn : ∀ {a : Addr}, H a = none → a ≠ h.p := fun z => np_of E.hand z
  have pF : p ∉ F := fun hp => by
    obtain ⟨x, ex⟩ := RepL.there _ _ _ q p hp
    rw [n] at ex; cases ex
  refine c _ wd.2 _ _ (p :: F) (k1.trans (Keep.new n)) ⟨p, vs, F, rfl, rfl, upd_same, q.keep (Keep.new n) fun a ha => hn (fr a ha).1⟩ (fun a ha => ?_) (List.nodup_cons.mpr ⟨pF, nd⟩)
  rcases List.mem_cons.mp ha with z | z
  · subst z
    exact ⟨fresh_back k1 E.hand n, fun o u z => by rw [upd_same] at z; cases z⟩
  · exact ⟨(fr a z).1, nf_keep (Keep.new n) (hn (fr a z).1) (RepL.there _ _ _ q a z) (fr a z).2⟩
theorem pdic0 : PE X (.Dict [] [] pos) (tF h wDic0) := pe_imp pe_dnewK fun σ H Q w => by
  obtain ⟨G, ρ, Fs, R, E, w, c⟩ := w
  exact fun p n => PostF.dic (kvs := []) c w ⟨rfl, List.nodup_nil⟩ ⟨rfl, rfl⟩ p n
theorem pdit0 : PE X (.Dict [] [] pos) (tF h wDit0) := pe_imp pe_dnewT fun σ H Q w => by
  obtain ⟨G, ρ, Fs, R, E, w, c⟩ := w
  refine fun p n => c _ w _ _ [p] (Keep.new n) ⟨p, [], [], rfl, rfl, .inl upd_same, ⟨rfl, List.nodup_nil⟩, rfl, rfl⟩ (fun b hb => ?_) (by simp)
  have e : b = p := by simpa using hb
  subst e
  exact ⟨n, fun o u z => by rw [upd_same] at z; cases z⟩
/-! ### tests, and, or, not, if -/
theorem pif (hc : PT X c (tT h tc)) (ha : PE X a (tF h fa)) (hb : PE X b (tF h fb)) : PE X (.IfExp c a b pos) (tF h (wIf tc fa fb)) := pe_imp (pe_ifExp hc ha hb) fun σ H Q w => by
  obtain ⟨G, ρ, Fs, R, E, w, c⟩ := w
  refine ⟨G, ρ, Fs, _, E, w, fun k wk H1 k1 => ?_⟩
  cases k with
  | true => rw [if_pos rfl] at wk ⊢; exact ⟨G, ρ, Fs, R, E.after k1, wk, PostF.back k1 E.hand c⟩
  | false => rw [if_neg Bool.false_ne_true] at wk ⊢; exact ⟨G, ρ, Fs, R, E.after k1, wk, PostF.back k1 E.hand c⟩
theorem pifP (hc : PT X c (tT h tc)) (ha : PE X a (tP h fa)) (hb : PE X b (tP h fb)) : PE X (.IfExp c a b pos) (tP h (wIf tc fa fb)) := pe_imp (pe_ifExp hc ha hb) fun σ H Q w => by
  obtain ⟨G, ρ, Fs, R, E, w, c⟩ := w
  refine ⟨G, ρ, Fs, _, E, w, fun k wk H1 k1 => ?_⟩
  cases k with
  | true => rw [if_pos rfl] at wk ⊢; exact ⟨G, ρ, Fs, R, E.after k1, wk, PostP.back k1 c⟩
  | false => rw [if_neg Bool.false_ne_true] at wk ⊢; exact ⟨G, ρ, Fs, R, E.after k1, wk, PostP.back k1 c⟩
theorem asB_rep {d : D} {F : List Addr} {v : V} {H : Hp} {K : Bool → Prop} (w : asB d K) (q : Rep h H d F v) : ∃ b, v = .bl b ∧ K b := by
  unfold asB at w
  split at w
  · exact ⟨_, q.2, w⟩
  · exact w.elim
theorem ptb (p : PE X e (tP h f)) (he : ∀ whole, isTrue e X.env whole = (do let v ← whole; standAt e.pos; holding [v] (truthy v)) := by intro _; rfl) : PT X e (tT h (wTB f)) := pt_imp (pt_val p he) fun σ H Q w => by
  obtain ⟨G, ρ, Fs, R, E, w, c⟩ := w
  refine ⟨G, ρ, Fs, _, E, w, fun d wd v H1 F k1 q np => ?_⟩
  obtain ⟨b, e, w2⟩ := asB_rep wd q
  exact ⟨b, e, c b w2 H1 k1⟩
theorem ptc {op : CmpOp} {r : R2} {k : D → D → (D → Prop) → Prop} (ho : OpR X (compareOp op) r) (hs : SndF h r k) (ha : PE X a (tP h fa)) (hb : PE X b (tP h fb)) (hm : behindInMarks op b = false) : PT X (.Compare a [op] [b] pos) (tT h (wTB (wB k fa fb))) := pt_imp (pt_cmpR ho ha hb hm) fun σ H Q w => by
  obtain ⟨G, ρ, Fs, R, E, w, c⟩ := w
  refine tOp_F (k := k) hs ⟨G, ρ, Fs, _, E, w, fun d wd v H1 F k1 q fr nd => ?_⟩
  obtain ⟨b, e, w2⟩ := asB_rep wd q
  exact ⟨b, e, c b w2 H1 k1⟩
theorem ptand1 (ha : PT X a (tT h ta)) : PW X (.BoolOp .And [a] pos) (tT h ta) := pw_and1 ha
theorem ptor1 (ha : PT X a (tT h ta)) : PW X (.BoolOp .Or [a] pos) (tT h ta) := pw_or1 ha
theorem ptand (ha : PT X a (tT h ta)) (hb : PW X (.BoolOp .And (b :: rest) pos) (tT h tb)) : PW X (.BoolOp .And (a :: b :: rest) pos) (tT h (wAndT ta tb)) := pw_imp (pw_and ha hb) fun σ H Q w => by
  obtain ⟨G, ρ, Fs, R, E, w, c⟩ := w
  refine ⟨G, ρ, Fs, _, E, w, fun k wk H1 k1 => ?_⟩
  cases k with
  | true => rw [if_pos rfl] at wk ⊢; exact ⟨G, ρ, Fs, R, E.after k1, wk, fun b r H2 k2 => c b r H2 (k1.trans k2)⟩
  | false => rw [if_neg Bool.false_ne_true] at wk ⊢; exact c _ wk H1 k1
theorem ptor (ha : PT X a (tT h ta)) (hb : PW X (.BoolOp .Or (b :: rest) pos) (tT h tb)) : PW X (.BoolOp .Or (a :: b :: rest) pos) (tT h (wOrT ta tb)) := pw_imp (pw_or ha hb) fun σ H Q w => by
  obtain ⟨G, ρ, Fs, R, E, w, c⟩ := w
  refine ⟨G, ρ, Fs, _, E, w, fun k wk H1 k1 => ?_⟩
  cases k with
  | true => rw [if_pos rfl] at wk ⊢; exact c _ wk H1 k1
  | false => rw [if_neg Bool.false_ne_true] at wk ⊢; exact ⟨G, ρ, Fs, R, E.after k1, wk, fun b r H2 k2 => c b r H2 (k1.trans k2)⟩
theorem ptnot (ha : PT X a (tT h ta)) : PT X (.UnaryOp .Not a pos) (tT h (wNotT ta)) := pt_imp (pt_not ha) fun σ H Q w => by
  obtain ⟨G, ρ, Fs, R, E, w, c⟩ := w
  exact ⟨G, ρ, Fs, _, E, w, fun k wk H1 k1 => c _ wk H1 k1⟩
theorem pnot (ha : PE X a (tP h fa)) : PE X (.UnaryOp .Not a pos) (tF h (wU kNot fa)) := pe_imp (pe_not ha) fun σ H Q w => by
  obtain ⟨G, ρ, Fs, R, E, w, c⟩ := w
  refine ⟨G, ρ, Fs, _, E, w, fun d wd v H1 F k1 q np => ?_⟩
  unfold kNot at wd
  split at wd
  · exact ⟨_, q.2, (PostF.back k1 E.hand c).atom wd⟩
  · exact wd.elim
theorem pone {op} (p : PE X a (tF h f)) : PE X (.BoolOp op [a] pos) (tF h f) := pe_one p
theorem pand (ha : PE X a (tP h fa)) (hb : PE X (.BoolOp .And (b :: rest) pos) (tF h fb)) : PE X (.BoolOp .And (a :: b :: rest) pos) (tF h (wAndV fa fb)) := pe_imp (pe_and ha hb) fun σ H Q w => by
  obtain ⟨G, ρ, Fs, R, E, w, c⟩ := w
  refine ⟨G, ρ, Fs, _, E, w, fun d wd v H1 F k1 q np => ?_⟩
  obtain ⟨b, e, w2⟩ := asB_rep wd q
  refine ⟨b, e, ?_⟩
  cases b with
  | true => rw [if_pos rfl] at w2 ⊢; exact ⟨G, ρ, Fs, R, E.after k1, w2, PostF.back k1 E.hand c⟩
  | false => rw [if_neg Bool.false_ne_true] at w2 ⊢; exact (PostF.back k1 E.hand c).atom w2
theorem por (ha : PE X a (tP h fa)) (hb : PE X (.BoolOp .Or (b :: rest) pos) (tF h fb)) : PE X (.BoolOp .Or (a :: b :: rest) pos) (tF h (wOrV fa fb)) := pe_imp (pe_or ha hb) fun σ H Q w => by
  obtain ⟨G, ρ, Fs, R, E, w, c⟩ := w
  refine ⟨G, ρ, Fs, _, E, w, fun d wd v H1 F k1 q np => ?_⟩
  obtain ⟨b, e, w2⟩ := asB_rep wd q
  refine ⟨b, e, ?_⟩
  cases b with
  | true => rw [if_pos rfl] at w2 ⊢; exact (PostF.back k1 E.hand c).atom w2
  | false => rw [if_neg Bool.false_ne_true] at w2 ⊢; exact ⟨G, ρ, Fs, R, E.after k1, w2, PostF.back k1 E.hand c⟩
/-- a chain of two comparisons -/
def wChain (k k' : D → D → (D → Prop) → Prop) (fa fb fc : WE) : WE := fun ρ R => fa ρ fun x => fb ρ fun y => k x y fun z => asB z fun c => if c = true then fc ρ fun u => k' y u R else R (.v (.bl false))
theorem pchain {op op' : CmpOp} {r r' : R2} {k k' : D → D → (D → Prop) → Prop} {fc : WE} (ho : OpR X (compareOp op) r) (ho' : OpR X (compareOp op') r') (hs : SndF h r k) (hs' : SndF h r' k') (ha : PE X a (tP h fa)) (hb : PE X b (tP h fb)) (hc : PE X c (tP h fc))
    (hm : lastMarks [op, op'] [b, c] = false := by with_unfolding_all rfl) : PE X (.Compare a [op, op'] [b, c] pos) (tF h (wChain k k' fa fb fc)) := pe_imp (pe_chain ho ho' ha hb hc hm) fun σ H Q w => by
  obtain ⟨G, ρ, Fs, R, E, w, c⟩ := w
  refine ⟨G, ρ, Fs, _, E, w, fun dx wx x H1 F1 k1 q1 np1 => ?_⟩
  refine ⟨G, ρ, Fs, _, E.after k1, wx, fun dy wy y H2 F2 k2 q2 np2 => ?_⟩
  refine hs H2 _ _ dx dy F1 F2 x y ((E.after k1).after k2).hand wy (q1.keep k2 np1) q2 fun dz wz z H3 F3 k3 q3 fr nd => ?_
  obtain ⟨b, e, w2⟩ := asB_rep wz q3
  refine ⟨b, e, ?_⟩
  have c := PostF.back ((k1.trans k2).trans k3) E.hand c
  cases b with
  | true =>
    rw [if_pos rfl] at w2 ⊢
    refine ⟨G, ρ, Fs, _, ((E.after k1).after k2).after k3, w2, fun du wu u H4 F4 k4 q4 np4 => ?_⟩
    exact hs' H4 R Q dy du F2 F4 y u ((((E.after k1).after k2).after k3).after k4).hand wu (q2.keep (k3.trans k4) np2) q4 (PostF.back k4 (((E.after k1).after k2).after k3).hand c)
  | false => rw [if_neg Bool.false_ne_true] at w2 ⊢; exact c.atom w2
end
/-! ### slices -/
def cutL {α : Type} (xs : List α) (lo hi : Option Int) : List α := (xs.drop (HT.sIx xs.length 0 lo)).take (HT.sIx xs.length xs.length hi - HT.sIx xs.length 0 lo)
def wNoPart : Rho → (Option Int → Prop) → Prop := fun _ R => R none
def wPart (f : WE) : Rho → (Option Int → Prop) → Prop := fun ρ R => f ρ fun d => match d with
  | .v (.int i) => R (some i)
  | _ => False
def kSl : D → Option Int → Option Int → (D → Prop) → Prop
  | .lst ds, lo, hi, R => immL ds = true ∧ R (.lst (cutL ds lo hi))
  | .tup z ds, lo, hi, R => immL ds = true ∧ (HT.sIx ds.length 0 lo = 0 ∧ HT.sIx ds.length ds.length hi = ds.length → R (.tup z ds)) ∧ (¬ (HT.sIx ds.length 0 lo = 0 ∧ HT.sIx ds.length ds.length hi = ds.length) → R (.tup false (cutL ds lo hi)))
  | .v (.str z), lo, hi, R => z.length ≤ sizeLine ∧ R (.v (.str (cutS z lo hi)))
  | _, _, _, _ => False
def wSl (fa : WE) (l u : Rho → (Option Int → Prop) → Prop) : WE := fun ρ R => fa ρ fun x => l ρ fun lo => u ρ fun hi => kSl x lo hi R
section
variable {X : Cx} {a b c e : Expr} {lo hi : Option Expr} {pos p2 : Pos} {h : Hd} {fa fb f : WE} {l u : Rho → (Option Int → Prop) → Prop}
def tO (h : Hd) (f : Rho → (Option Int → Prop) → Prop) : TO := fun σ H Q => ∃ G ρ Fs R, En h G H σ ρ Fs ∧ f ρ R ∧ ∀ o, R o → ∀ H', Keep h H H' → Q o H'
theorem po0 : PO X none (tO h wNoPart) := ⟨fun pins s σ H Q I w => po_none.run pins s σ H Q I (by obtain ⟨G, ρ, Fs, R, E, w, c⟩ := w; exact c _ w H (Keep.refl H))⟩
theorem po1 (p : PE X e (tP h f)) : PO X (some e) (tO h (wPart f)) := ⟨fun pins s σ H Q I w => (po_some p).run pins s σ H Q I (by
  obtain ⟨G, ρ, Fs, R, E, w, c⟩ := w
  refine ⟨G, ρ, Fs, _, E, w, fun d wd v H1 F k1 q np => ?_⟩
  split at wd
  · exact ⟨_, q.2, c _ wd H1 k1⟩
  · exact wd.elim)⟩
theorem repL_drop {H : Hp} : ∀ {ds : List D} {xs : List V} (n : Nat), RepL h H ds [] xs → RepL h H (ds.drop n) [] (xs.drop n)
  | ds, xs, 0, r => r
  | [], xs, n + 1, r => by rw [r.2]; exact ⟨rfl, rfl⟩
  | d :: ds, xs, n + 1, r => by
    obtain ⟨F1, F2, x, ys, e1, e2, r1, r2⟩ := r
    obtain ⟨f1, f2⟩ := List.append_eq_nil_iff.mp e1.symm
    subst f1 f2
    rw [e2]
    exact repL_drop n r2
theorem repL_take {H : Hp} : ∀ {ds : List D} {xs : List V} (n : Nat), RepL h H ds [] xs → RepL h H (ds.take n) [] (xs.take n)
  | ds, xs, 0, r => ⟨rfl, rfl⟩
  | [], xs, n + 1, r => by rw [r.2]; exact ⟨rfl, rfl⟩
  | d :: ds, xs, n + 1, r => by
    obtain ⟨F1, F2, x, ys, e1, e2, r1, r2⟩ := r
    obtain ⟨f1, f2⟩ := List.append_eq_nil_iff.mp e1.symm
    subst f1 f2
    rw [e2]
    exact ⟨[], [], x, ys.take n, rfl, rfl, r1, repL_take n r2⟩
theorem repL_cut {H : Hp} {ds : List D} {xs : List V} {lo hi : Option Int} (r : RepL h H ds [] xs) : RepL h H (cutL ds lo hi) [] (cutV xs lo hi) := by
  unfold cutL cutV
  rw [r.length]
  exact repL_take _ (repL_drop _ r)
abbrev rSl3 (K : PySem.W.Frag) : V → Option Int → Option Int → Hp → VK → Prop := fun x lo hi H Q => rSlL K x lo hi H Q ∨ rSlA K x lo hi H Q ∨ rSlS x lo hi H Q
theorem o_sl : SlR X (rSl3 X.K) := sl_list.or (sl_tupA.or sl_str)
theorem psl (ha : PE X a (tP h fa)) (hl : PO X lo (tO h l)) (hu : PO X hi (tO h u)) : PE X (.Subscript a (.Slice lo hi none p2) pos) (tF h (wSl fa l u)) := pe_imp (pe_slice o_sl ha hl hu) fun σ H Q w => by
  obtain ⟨G, ρ, Fs, R, E, w, c⟩ := w
  refine ⟨G, ρ, Fs, _, E, w, fun d wd v H1 F k1 q np => ?_⟩
  refine ⟨G, ρ, Fs, _, E.after k1, wd, fun lo wl H2 k2 => ?_⟩
  refine ⟨G, ρ, Fs, _, (E.after k1).after k2, wl, fun hi wh H3 k3 => ?_⟩
  have k4 := k2.trans k3
  have q := q.keep k4 np
  have c := PostF.back (k1.trans k4) E.hand c
  unfold kSl at wh
  split at wh
  · obtain ⟨a, xs, F1, rfl, _, e3, r⟩ := q
    have := RepL.imm _ _ _ wh.1 r
    subst this
    exact .inl ⟨a, xs, rfl, .inl (.inl e3), fun p n => c.lst wh.2 (repL_cut r) p n⟩
  · obtain ⟨a, xs, rfl, e3, r⟩ := q
    obtain ⟨im, w1, w2⟩ := wh
    have := RepL.imm _ _ _ im r
    subst this
    refine .inr (.inl ⟨a, xs, rfl, e3.sq, fun z => ?_, fun z p n => ?_⟩)
    · rw [r.length] at z
      exact c _ (w1 z) _ H3 [] (Keep.refl H3) ⟨a, xs, rfl, e3, r⟩ (fun _ z => nomatch z) List.nodup_nil
    · rw [r.length] at z
      exact c.tup (w2 z) (repL_cut r) rfl p n
  · exact .inr (.inr ⟨_, q.2, wh.1, c.atom wh.2⟩)
  · exact wh.elim
end

/-! ### methods of built-in types -/
def tyD : String → D → Bool
  | "str", .v (.str _) => true
  | "list", .lst _ => true
  | _, _ => false
def wM (T : String) (k : D → List D → (D → Prop) → Prop) (fo : WE) (g : WA) : WE := fun ρ R => fo ρ fun x => tyD T x = true ∧ g ρ fun ds => k x ds R
def SndM (h : Hd) (r : V → List V → Hp → VK → Prop) (k : D → List D → (D → Prop) → Prop) : Prop := ∀ H R Q dx ds Fx F x vs, HandOk h H → k dx ds R → Rep h H dx Fx x → RepL h H ds F vs → (∀ a ∈ Fx, a ≠ h.p) → (∀ a ∈ F, a ≠ h.p) → PostF h H R Q → r x vs H Q
section
variable {X : Cx} {o e : Expr} {es : List Expr} {name : Str} {apos cpos : Pos} {T id : String} {r : V → List V → Hp → VK → Prop} {h : Hd} {fo : WE} {g : WA} {k : D → List D → (D → Prop) → Prop}
theorem tyD_v {H : Hp} {d : D} {F : List Addr} {v : V} (e : tyD T d = true) (q : Rep h H d F v) : tyV X.K T v H := by
  unfold tyD at e
  split at e
  · rw [q.2]; rfl
  · obtain ⟨a, xs, F1, rfl, _, e3, r⟩ := q
    exact .inl ⟨rfl, xs, .inl (.inl e3)⟩
  · cases e
theorem pm (pa : PlainAttrs T) (slot : Slot T name id) (hty : typeOf (.builtin id) = pure (.type "method_descriptor")) (hm : MtR X id r) (hs : SndM h r k) (ho : PE X o (tP h fo)) (ha : PA X (e :: es) (tAP h g))
    (hbase : attributeBase o name X.env (eval o X.env) = eval o X.env := by rfl)
    (hfew : ((backTo cpos (starEach (e :: es) X.env)).all (fun x => !x.1) && (backToKw cpos (keywordEach [] X.env)).all (fun x => x.1.isSome)
      && decide ((e :: es).length + ([] : List Keyword).length + (if ([] : List Keyword).isEmpty then 0 else 1) < 30)) = true := by rfl)
    (hline : (apos.endLine == cpos.line) = true := by rfl) (hst : starEach (e :: es) X.env = (false, eval e X.env) :: starEach es X.env := by rfl) (hplain : (backTo cpos (starEach es X.env)).any (·.1) = false := by rfl) :
    PE X (.Call (.Attribute o name apos) (e :: es) [] cpos) (tF h (wM T k fo g)) := pe_imp (pe_bm pa slot hty hm ho ha hbase hfew hline hst hplain) fun σ H Q w => by
  obtain ⟨G, ρ, Fs, R, E, w, c⟩ := w
  refine ⟨G, ρ, Fs, _, E, w, fun d wd v H1 F k1 q np => ⟨tyD_v wd.1 q, ?_⟩⟩
  refine ⟨G, ρ, Fs, _, E.after k1, wd.2, fun ds wk vs H2 F2 k2 q2 np2 => ?_⟩
  exact hs H2 R Q d ds F F2 v vs ((E.after k1).after k2).hand wk (q.keep k2 np) q2 np np2 (PostF.back (k1.trans k2) E.hand c)
def kJoin : D → List D → (D → Prop) → Prop
  | .v (.str a), [.lst ds], R => match strsOf ds with
    | some ys => (ys.map (·.length)).sum + ys.length * a.length ≤ 16777216 ∧ R (.v (.str (Txt.join a ys)))
    | none => False
  | .v (.str a), [.tup _ ds], R => match strsOf ds with
    | some ys => (ys.map (·.length)).sum + ys.length * a.length ≤ 16777216 ∧ R (.v (.str (Txt.join a ys)))
    | none => False
  | _, _, _ => False
theorem s_join {K : PySem.W.Frag} : SndM h (fun x xs H Q => ∃ a p, ∃ ys : List Str, x = .str a ∧ xs = [.ref p] ∧ (SqL K H p (ys.map V.str) ∨ SqT K H p (ys.map V.str)) ∧
    (ys.map (·.length)).sum + ys.length * a.length ≤ 16777216 ∧ Q (.str (Txt.join a ys)) H) kJoin := by
  intro H R Q dx ds Fx F x vs ho w qx q _ _ c
  unfold kJoin at w
  split at w
  · split at w
    · rename_i ys e
      obtain ⟨v, rfl, a, xs, F1, rfl, _, e3, r⟩ := repL1 q
      rw [strs_v e r] at e3
      exact ⟨_, a, ys, qx.2, rfl, .inl (.inl (.inl e3)), w.1, c.atom w.2⟩
    · exact w.elim
  · split at w
    · rename_i ys e
      obtain ⟨v, rfl, a, xs, rfl, e3, r⟩ := repL1 q
      rw [strs_v e r] at e3
      exact ⟨_, a, ys, qx.2, rfl, .inr e3.sq, w.1, c.atom w.2⟩
    · exact w.elim
  · exact w.elim
end

/-! ### d.get(k, x) -/
def kGet : D → D → D → (D → Prop) → Prop
  | .dic ks ds, y, z, R => match y.key with
    | some k => R ((lookD ks ds k).getD z)
    | none => False
  | .dit ks ds, y, z, R => match y.keyT with
    | some k => R ((lookD ks ds k).getD z)
    | none => False
  | _, _, _, _ => False
def isDic : D → Bool
  | .dic _ _ => true
  | .dit _ _ => true
  | _ => false
def wGet (fd fy fz : WE) : WE := fun ρ R => fd ρ fun d => isDic d = true ∧ fy ρ fun y => fz ρ fun z => kGet d y z R
section
variable {X : Cx} {o e f : Expr} {apos cpos : Pos} {h : Hd} {fd fy fz : WE}
theorem pget (hu : X.A.units + 1 < cLine) (ho : PE X o (tP h fd)) (he : PE X e (tP h fy)) (hf : PE X f (tP h fz)) (m : M2 X o "get" apos e f cpos) : PE X (.Call (.Attribute o "get" apos) [e, f] [] cpos) (tP h (wGet fd fy fz)) := pe_imp (pe_dget2 hu ho he hf m) fun σ H Q w => by
  obtain ⟨G, ρ, Fs, R, E, w, c⟩ := w
  refine ⟨G, ρ, Fs, _, E, w, fun d wd v H1 F k1 q np => ?_⟩
  have hd : ∃ a, v = .ref a ∧ IsD H1 a := by
    obtain ⟨hd, _⟩ := wd
    unfold isDic at hd
    split at hd
    · obtain ⟨a, kvs, F1, rfl, _, e3, _⟩ := q; exact ⟨a, rfl, .inl ⟨kvs, e3⟩⟩
    · obtain ⟨a, kvs, F1, rfl, _, e3, _⟩ := q; exact ⟨a, rfl, .inr ⟨kvs, e3⟩⟩
    · cases hd
  obtain ⟨a, rfl, isd⟩ := hd
  refine ⟨a, rfl, isd, ?_⟩
  refine ⟨G, ρ, Fs, _, E.after k1, wd.2, fun y wy v2 H2 F2 k2 q2 np2 => ?_⟩
  refine ⟨G, ρ, Fs, _, (E.after k1).after k2, wy, fun z wz v3 H3 F3 k3 q3 np3 => ?_⟩
  have k4 := k2.trans k3
  have q := q.keep k4 np
  have q2 := q2.keep k3 np2
  have c := PostP.back (k1.trans k4) c
  unfold kGet at wz
  split at wz
  · split at wz
    · rename_i k ek
      obtain ⟨a', kvs, F1, ea, eF, e3, ⟨e4, nd⟩, r⟩ := q
      cases ea
      subst e4
      refine ⟨valV kvs k, .inl ⟨kvs, k, e3, key_v ek q2, rfl⟩, ?_⟩
      have i := look_rep k r
      cases hl : lookD (kvs.map (·.1)) _ k with
      | none => rw [hl] at wz; rw [i.2 hl]; exact c.here wz q3 np3
      | some d' =>
        rw [hl] at wz
        obtain ⟨v', F4, g1, g2, g3⟩ := i.1 d' hl
        rw [g1]
        exact c.here wz g2 fun b hb => np b (by rw [eF]; exact List.mem_cons_of_mem _ (g3.subset hb))
    · exact wz.elim
  · split at wz
    · rename_i k ek
      obtain ⟨a', kvs, F1, ea, eF, e3, ⟨e4, nd⟩, r⟩ := q
      cases ea
      subst e4
      obtain ⟨b', eb, eb2⟩ := keyT_v ek q2
      refine ⟨valV kvs k, .inr ⟨kvs, k, b', e3, eb, eb2, rfl⟩, ?_⟩
      have i := look_rep k r
      cases hl : lookD (kvs.map (·.1)) _ k with
      | none => rw [hl] at wz; rw [i.2 hl]; exact c.here wz q3 np3
      | some d' =>
        rw [hl] at wz
        obtain ⟨v', F4, g1, g2, g3⟩ := i.1 d' hl
        rw [g1]
        exact c.here wz g2 fun b hb => np b (by rw [eF]; exact List.mem_cons_of_mem _ (g3.subset hb))
    · exact wz.elim
  · exact wz.elim
end

/-! ### a def of the text, called -/
/-- the def x stands and keeps the promise g -/
structure Cal (P : Program) (w : World) (K : PySem.W.Frag) (mg : Str → Option Value) (base : Heap) (k : Nat) (x : Str) (ps : List Str) (g : List D → (D → Prop) → Prop) : Prop where
  at_ : ∃ f fd, mg x = some (.ref f) ∧ PySem.W.keepIn K (.ref f) = true ∧ Binds K fd ps [] ∧ ∀ h : Hd, FnOk P w K mg base CX0 k f fd ps (spP h g)
section
variable {X : Cx} {e : Expr} {es : List Expr} {x : Str} {p pos : Pos} {h : Hd} {ga : WA} {k : Nat} {ps : List Str} {g : List D → (D → Prop) → Prop}
theorem pcall (C : Cal X.prog X.w X.K X.mg X.base k x ps g) (hr : Room k X.A) (hg : Gl X x) (ha : PA X (e :: es) (tAP h ga))
    (hdb : (x == ("__debug__" : Str)) = false := by decide) (he : starEach (e :: es) X.env = (false, eval e X.env) :: starEach es X.env := by rfl) (hpl : (backTo pos (starEach es X.env)).any (·.1) = false := by rfl) : PE X (.Call (.Name x p) (e :: es) [] pos) (tF h (wL g ga)) := by
  obtain ⟨f, fd, hm, hk, hb, F⟩ := C.at_
  refine pe_imp (pe_call (F h) hr hg hm hk hb .nil pass0 ha hdb he hpl) fun σ H Q w => ?_
  obtain ⟨G, ρ, Fs, R, E, w, c⟩ := w
  refine ⟨G, ρ, Fs, _, E, w, fun ds wd vs H1 F k1 q np => ?_⟩
  show spP h g (vs ++ []) H1 Q E0
  rw [List.append_nil]
  exact ⟨ds, F, R, (E.after k1).hand, q, np, wd, PostF.back k1 E.hand c⟩
end
end PL

namespace PL
open PySem PySem.Spec PyProof.Rows L2

/-! ### slots stored -/
def setF (Fs : Nat → List Addr) (i : Nat) (F : List Addr) : Nat → List Addr := fun j => if j = i then F else Fs j
theorem setF_same {Fs : Nat → List Addr} {i : Nat} {F : List Addr} : setF Fs i F i = F := if_pos rfl
theorem setF_ne {Fs : Nat → List Addr} {i j : Nat} {F : List Addr} (n : j ≠ i) : setF Fs i F j = Fs j := if_neg n
def lcks (ρ : Rho) : List (Option (V × D)) := ρ.map fun s => match s with
  | .lck v d => some (v, d)
  | _ => none
section
variable {h : Hd} {G : Gd} {H H' : Hp} {σ : L2.St} {ρ : Rho} {Fs : Nat → List Addr}
theorem En.there (E : En h G H σ ρ Fs) {i : Nat} {a : Addr} (ha : a ∈ Fs i) : ∃ x, H a = some x := by
  by_cases hi : i < ρ.length
  · obtain ⟨x, _, r⟩ := E.rep i _ (List.getElem?_eq_getElem hi)
    cases hs : ρ[i] with
    | no => rw [hs] at r; have r : Fs i = [] := r; rw [r] at ha; cases ha
    | own d => rw [hs] at r; obtain ⟨v, _, r, _⟩ := r; exact Rep.there _ _ _ r a ha
    | bor d => rw [hs] at r; have r : Fs i = [] := r.1; rw [r] at ha; cases ha
    | lck v d => rw [hs] at r; have r : Fs i = [] := r.1; rw [r] at ha; cases ha
  · rw [E.out i (Nat.le_of_not_lt hi)] at ha; cases ha
/-- the value is no part of what stands -/
def Apart (G : Gd) (Fs : Nat → List Addr) (H : Hp) (F : List Addr) : Prop := (∀ a ∈ F, (G.g a = none ∧ G.q a = none) ∧ NFrz H a ∧ ∀ j, a ∉ Fs j) ∧ F.Nodup
theorem Apart.of (E : En h G H σ ρ Fs) (k : Keep h H H') {F : List Addr} (fr : ∀ a ∈ F, H a = none ∧ NFrz H' a) (nd : F.Nodup) : Apart G Fs H' F := by
  refine ⟨fun a ha => ⟨⟨?_, ?_⟩, (fr a ha).2, fun j hj => ?_⟩, nd⟩
  · cases e : G.g a with
    | none => rfl
    | some x =>
      by_cases z : a = h.p
      · subst z
        obtain ⟨⟨y, e1⟩, _⟩ := E.hand.there
        rw [(fr _ ha).1] at e1; cases e1
      · have := E.keep.same a x e z
        rw [(fr a ha).1] at this; cases this
  · cases e : G.q a with
    | none => rfl
    | some x =>
      have := E.hold a x e
      rw [(fr a ha).1] at this; cases this
  · obtain ⟨x, e⟩ := E.there hj
    rw [(fr a ha).1] at e; cases e
theorem Apart.nil : Apart G Fs H [] := ⟨fun _ z => (nomatch z), List.nodup_nil⟩
theorem En.store (E : En h G H σ ρ Fs) {i : Nat} {d : D} {v : V} {F : List Addr} (q : Rep h H d F v) (ap : Apart G Fs H F) (hi : i < ρ.length) : En h G H (σ.set i (some v)) (ρ.set i (.own d)) (setF Fs i F) := by
  refine ⟨E.keep, E.hold, E.hand, E.gp, E.gc, E.qp, by simp [E.len], fun j s e => ?_, fun j hj => ?_, fun j k a hj hk => ?_, fun j => ?_, fun j a hj => ?_⟩
  · by_cases z : j = i
    · subst z
      rw [List.getElem?_set_self hi] at e
      cases e
      refine ⟨some v, List.getElem?_set_self (by rw [E.len]; exact hi), ?_⟩
      rw [setF_same]
      exact ⟨v, rfl, q, fun a ha => (ap.1 a ha).2.1⟩
    · rw [List.getElem?_set_ne (Ne.symm z)] at e
      obtain ⟨x, ex, r⟩ := E.rep j s e
      exact ⟨x, by rw [List.getElem?_set_ne (Ne.symm z)]; exact ex, by rw [setF_ne z]; exact r⟩
  · rw [List.length_set] at hj
    rw [setF_ne (by omega)]
    exact E.out j hj
  · by_cases z : j = i
    · subst z
      rw [setF_same] at hj
      by_cases y : k = j
      · exact y.symm
      · rw [setF_ne y] at hk
        exact absurd hk ((ap.1 a hj).2.2 k)
    · rw [setF_ne z] at hj
      by_cases y : k = i
      · subst y
        rw [setF_same] at hk
        exact absurd hj ((ap.1 a hk).2.2 j)
      · rw [setF_ne y] at hk
        exact E.dis j k a hj hk
  · by_cases z : j = i
    · subst z; rw [setF_same]; exact ap.2
    · rw [setF_ne z]; exact E.nod j
  · by_cases z : j = i
    · subst z; rw [setF_same] at hj; exact (ap.1 a hj).1
    · rw [setF_ne z] at hj; exact E.own j a hj
theorem En.forget (E : En h G H σ ρ Fs) {i : Nat} {x : Option V} (hi : i < ρ.length) : En h G H (σ.set i x) (ρ.set i .no) (setF Fs i []) := by
  refine ⟨E.keep, E.hold, E.hand, E.gp, E.gc, E.qp, by simp [E.len], fun j s e => ?_, fun j hj => ?_, fun j k a hj hk => ?_, fun j => ?_, fun j a hj => ?_⟩
  · by_cases z : j = i
    · subst z
      rw [List.getElem?_set_self hi] at e
      cases e
      exact ⟨x, List.getElem?_set_self (by rw [E.len]; exact hi), setF_same⟩
    · rw [List.getElem?_set_ne (Ne.symm z)] at e
      obtain ⟨x, ex, r⟩ := E.rep j s e
      exact ⟨x, by rw [List.getElem?_set_ne (Ne.symm z)]; exact ex, by rw [setF_ne z]; exact r⟩
  · rw [List.length_set] at hj
    rw [setF_ne (by omega)]
    exact E.out j hj
  · by_cases z : j = i
    · subst z; rw [setF_same] at hj; cases hj
    · by_cases y : k = i
      · subst y; rw [setF_same] at hk; cases hk
      · rw [setF_ne z] at hj; rw [setF_ne y] at hk; exact E.dis j k a hj hk
  · by_cases z : j = i
    · subst z; rw [setF_same]; exact List.nodup_nil
    · rw [setF_ne z]; exact E.nod j
  · by_cases z : j = i
    · subst z; rw [setF_same] at hj; cases hj
    · rw [setF_ne z] at hj; exact E.own j a hj

/-! ### what loops hold fast -/
open Classical in
noncomputable def qAll (h : Hd) (H : Hp) (Fs : Nat → List Addr) : Hp := fun b => if b = h.p ∨ ∃ j, b ∈ Fs j then none else H b
theorem qAll_none {b : Addr} (c : b = h.p ∨ ∃ j, b ∈ Fs j) : qAll h H Fs b = none := by unfold qAll; rw [if_pos c]
theorem qAll_some {b : Addr} (c : ¬ (b = h.p ∨ ∃ j, b ∈ Fs j)) : qAll h H Fs b = H b := by unfold qAll; rw [if_neg c]
theorem qAll_sub {b : Addr} {x : HO} (e : qAll h H Fs b = some x) : H b = some x := by
  by_cases c : b = h.p ∨ ∃ j, b ∈ Fs j
  · rw [qAll_none c] at e; cases e
  · rw [qAll_some c] at e; exact e
theorem En.q_all (E : En h G H σ ρ Fs) {b : Addr} {x : HO} (e : G.q b = some x) : qAll h H Fs b = some x := by
  rw [qAll_some (fun c => by
    rcases c with c | ⟨j, c⟩
    · rw [c, E.qp] at e; cases e
    · rw [(E.own j b c).2] at e; cases e)]
  exact E.hold b x e
theorem En.fast (E : En h G H σ ρ Fs) : En h ⟨G.g, qAll h H Fs⟩ H σ ρ Fs where
  keep := E.keep
  hold := fun b x e => qAll_sub e
  hand := E.hand
  gp := E.gp
  gc := E.gc
  qp := qAll_none (.inl rfl)
  len := E.len
  out := E.out
  dis := E.dis
  nod := E.nod
  own := fun i a ha => ⟨(E.own i a ha).1, qAll_none (.inr ⟨i, ha⟩)⟩
  rep := fun i s e => by
    obtain ⟨x, ex, r⟩ := E.rep i s e
    refine ⟨x, ex, ?_⟩
    cases s with
    | no => exact r
    | own d => exact r
    | bor d => exact r
    | lck v d =>
      obtain ⟨e1, e2, F1, r, q⟩ := r
      refine ⟨e1, e2, F1, r, fun a ha => ⟨fun z => ?_, (q a ha).2⟩⟩
      cases e3 : G.q a with
      | none => exact (q a ha).1 e3
      | some x =>
        have y := E.q_all e3
        have z : qAll h H Fs a = none := z
        rw [z] at y; cases y
/-- what was held fast is as it was -/
theorem held_tup {q H H2 : Hp} (s1 : ∀ b x, q b = some x → H b = some x) (s2 : ∀ b x, q b = some x → H2 b = some x) {z : Bool} {b : Addr} {xs : List V} (nn : q b ≠ none) (t : TupAt H z b xs) : TupAt H2 z b xs := by
  refine TupAt.of (fun o e _ => ?_) z t
  cases e3 : q b with
  | none => exact absurd e3 nn
  | some x =>
    rw [s1 b x e3] at e
    cases e
    exact s2 b _ e3
def MutAt (H : Hp) (a : Addr) : Prop := (∃ xs, H a = some (.lst xs)) ∨ (∃ kvs, Rd H a (.dK kvs)) ∨ ∃ kvs, Rd H a (.dT kvs)
theorem MutAt.not_tup {a : Addr} {xs : List V} (m : MutAt H a) : ∀ {z}, ¬ TupAt H z a xs := by
  intro z t
  cases z with
  | false =>
    have t : H a = some (.tup xs) := t
    rcases m with ⟨_, m⟩ | ⟨_, m | ⟨_, m⟩⟩ | ⟨_, m | ⟨_, m⟩⟩ <;> (rw [t] at m; cases m)
  | true =>
    obtain ⟨o, _, t⟩ := t
    rcases m with ⟨_, m⟩ | ⟨_, m | ⟨_, m⟩⟩ | ⟨_, m | ⟨_, m⟩⟩ <;> (rw [t] at m; cases m)
mutual
theorem Rep.mut : ∀ (d : D) (F : List Addr) (v : V), Rep h H d F v → ∀ a ∈ F, MutAt H a
  | .v x, F, v, r => by rw [r.1]; intro a ha; cases ha
  | .tup z ds, F, v, r => by
    obtain ⟨a, xs, e1, e2, r⟩ := r
    exact RepL.mut ds F xs r
  | .lst ds, F, v, r => by
    obtain ⟨a, xs, F1, e1, e2, e3, r⟩ := r
    subst e2
    intro b hb
    rcases List.mem_cons.mp hb with z | z
    · subst z; exact .inl ⟨_, e3⟩
    · exact RepL.mut ds F1 xs r b z
  | .dic ks ds, F, v, r => by
    obtain ⟨a, xs, F1, e1, e2, e3, e4, r⟩ := r
    subst e2
    intro b hb
    rcases List.mem_cons.mp hb with z | z
    · subst z; exact .inr (.inl ⟨_, e3⟩)
    · exact RepL.mut ds F1 _ r b z
  | .dit ks ds, F, v, r => by
    obtain ⟨a, xs, F1, e1, e2, e3, e4, r⟩ := r
    subst e2
    intro b hb
    rcases List.mem_cons.mp hb with z | z
    · subst z; exact .inr (.inr ⟨_, e3⟩)
    · exact RepL.mut ds F1 _ r b z
  | .hand, F, v, r => by rw [r.1]; intro a ha; cases ha
  termination_by structural d => d
theorem RepL.mut : ∀ (ds : List D) (F : List Addr) (xs : List V), RepL h H ds F xs → ∀ a ∈ F, MutAt H a
  | [], F, xs, r => by rw [r.1]; intro a ha; cases ha
  | d :: ds, F, xs, r => by
    obtain ⟨F1, F2, x, ys, e1, e2, r1, r2⟩ := r
    subst e1
    intro b hb
    rcases List.mem_append.mp hb with z | z
    · exact Rep.mut d F1 x r1 b z
    · exact RepL.mut ds F2 ys r2 b z
  termination_by structural ds => ds
end
theorem En.mut (E : En h G H σ ρ Fs) {i : Nat} {a : Addr} (ha : a ∈ Fs i) : MutAt H a := by
  by_cases hi : i < ρ.length
  · obtain ⟨x, _, r⟩ := E.rep i _ (List.getElem?_eq_getElem hi)
    cases hs : ρ[i] with
    | no => rw [hs] at r; have r : Fs i = [] := r; rw [r] at ha; cases ha
    | own d => rw [hs] at r; obtain ⟨v, _, r, _⟩ := r; exact Rep.mut _ _ _ r a ha
    | bor d => rw [hs] at r; have r : Fs i = [] := r.1; rw [r] at ha; cases ha
    | lck v d => rw [hs] at r; have r : Fs i = [] := r.1; rw [r] at ha; cases ha
  · rw [E.out i (Nat.le_of_not_lt hi)] at ha; cases ha
theorem En.tup_fast (E : En h G H σ ρ Fs) {z : Bool} {b : Addr} {xs : List V} (t : TupAt H z b xs) : qAll h H Fs b = H b := qAll_some fun c => by
  rcases c with c | ⟨j, c⟩
  · obtain ⟨⟨y, e⟩, _⟩ := E.hand.there
    exact MutAt.not_tup (.inl ⟨y, by rw [c]; exact e⟩) t
  · exact (E.mut c).not_tup t
/-- what stands apart from the slots' own things is held fast -/
theorem En.held (E : En h G H σ ρ Fs) {H2 : Hp} (s2 : ∀ b x, qAll h H Fs b = some x → H2 b = some x) {d : D} {F : List Addr} {v : V} (r : Rep h H d F v) (ap : ∀ a ∈ F, a ≠ h.p ∧ ∀ j, a ∉ Fs j) : Rep h H2 d F v :=
  Rep.mono (fun z b xs t => TupAt.of (fun o e _ => s2 b o (by rw [E.tup_fast t]; exact e)) z t) d F v (fun a ha x e => s2 a x (by rw [qAll_some fun c => c.elim (ap a ha).1 fun ⟨j, c⟩ => (ap a ha).2 j c]; exact e)) r
/-- behind a loop: the old grip again -/
theorem En.free (E : En h G H σ ρ Fs) {H2 : Hp} {σ2 : L2.St} {ρ2 : Rho} {Fs2 : Nat → List Addr} (E2 : En h ⟨G.g, qAll h H Fs⟩ H2 σ2 ρ2 Fs2) (hl : lcks ρ2 = lcks ρ) : En h G H2 σ2 ρ2 Fs2 where
  keep := E2.keep
  hold := fun b x e => E2.hold b x (E.q_all e)
  hand := E2.hand
  gp := E2.gp
  gc := E2.gc
  qp := E.qp
  len := E2.len
  out := E2.out
  dis := E2.dis
  nod := E2.nod
  own := fun i a ha => ⟨(E2.own i a ha).1, by
    cases e : G.q a with
    | none => rfl
    | some x =>
      have y := E.q_all e
      have z : qAll h H Fs a = none := (E2.own i a ha).2
      rw [z] at y; cases y⟩
  rep := fun i s e => by
    obtain ⟨x, ex, r⟩ := E2.rep i s e
    refine ⟨x, ex, ?_⟩
    cases s with
    | no => exact r
    | own d => exact r
    | bor d => exact r
    | lck v d =>
      have e3 : (lcks ρ2)[i]? = some (some (v, d)) := by unfold lcks; rw [List.getElem?_map, e]; rfl
      rw [hl] at e3
      unfold lcks at e3
      rw [List.getElem?_map] at e3
      obtain ⟨s', es, e4⟩ := Option.map_eq_some_iff.mp e3
      cases s' with
      | no => cases e4
      | own d' => cases e4
      | bor d' => cases e4
      | lck v' d' =>
        cases e4
        obtain ⟨x', _, _, _, F1, r1, q1⟩ := E.rep i _ es
        refine ⟨r.1, r.2.1, F1, E.held (fun b x e => E2.hold b x e) r1 fun a ha => ⟨(q1 a ha).2, fun j hj => (q1 a ha).1 (E.own j a hj).2⟩, q1⟩
/-- a slot locked -/
theorem En.lock (E : En h G H σ ρ Fs) {i : Nat} {d : D} {v : V} (e : ρ[i]? = some (.own d)) (ev : σ[i]? = some (some v)) : En h ⟨G.g, qAll h H (setF Fs i [])⟩ H σ (ρ.set i (.lck v d)) (setF Fs i []) := by
  have hi : i < ρ.length := (List.getElem?_eq_some_iff.mp e).1
  have E1 := E.fast
  refine ⟨E.keep, fun b x e => qAll_sub e, E.hand, E.gp, E.gc, qAll_none (.inl rfl), by simp [E.len], fun j s ej => ?_, fun j hj => ?_, fun j k a hj hk => ?_, fun j => ?_, fun j a hj => ⟨?_, qAll_none (.inr ⟨j, hj⟩)⟩⟩
  · by_cases z : j = i
    · subst z
      rw [List.getElem?_set_self hi] at ej
      cases ej
      obtain ⟨x, ex, v', ev', r, nf⟩ := E.rep j _ e
      rw [ev] at ex
      cases ex
      cases ev'
      refine ⟨some v, ev, setF_same, rfl, Fs j, r, fun a ha => ⟨fun z => ?_, E.np ha⟩⟩
      obtain ⟨y, ey⟩ := E.there ha
      have z : qAll h H (setF Fs j []) a = none := z
      rw [qAll_some (fun c => by
        rcases c with c | ⟨k, c⟩
        · exact E.np ha c
        · by_cases y : k = j
          · subst y; rw [setF_same] at c; cases c
          · rw [setF_ne y] at c; exact y (E.dis k j a c ha)), ey] at z
      cases z
    · rw [List.getElem?_set_ne (Ne.symm z)] at ej
      obtain ⟨x, ex, r⟩ := E.rep j s ej
      refine ⟨x, ex, ?_⟩
      rw [setF_ne z]
      cases s with
      | no => exact r
      | own d => exact r
      | bor d => exact r
      | lck v2 d2 =>
        obtain ⟨e1, e2, F1, r, q⟩ := r
        refine ⟨e1, e2, F1, r, fun a ha => ⟨fun z => ?_, (q a ha).2⟩⟩
        have z : qAll h H (setF Fs i []) a = none := z
        cases e3 : G.q a with
        | none => exact (q a ha).1 e3
        | some y =>
          rw [qAll_some (fun c => by
            rcases c with c | ⟨k, c⟩
            · exact (q a ha).2 c
            · by_cases y : k = i
              · subst y; rw [setF_same] at c; cases c
              · rw [setF_ne y] at c; rw [(E.own k a c).2] at e3; cases e3), E.hold a y e3] at z
          cases z
  · rw [List.length_set] at hj
    by_cases z : j = i
    · subst z; exact setF_same
    · rw [setF_ne z]; exact E.out j hj
  · by_cases z : j = i
    · subst z; rw [setF_same] at hj; cases hj
    · by_cases y : k = i
      · subst y; rw [setF_same] at hk; cases hk
      · rw [setF_ne z] at hj; rw [setF_ne y] at hk; exact E.dis j k a hj hk
  · by_cases z : j = i
    · subst z; rw [setF_same]; exact List.nodup_nil
    · rw [setF_ne z]; exact E.nod j
  · by_cases z : j = i
    · subst z; rw [setF_same] at hj; cases hj
    · rw [setF_ne z] at hj; exact (E.own j a hj).1
/-- .. and unlocked -/
theorem En.unlock (E : En h G H σ ρ Fs) {i : Nat} {d : D} {v : V} (e : ρ[i]? = some (.own d)) (ev : σ[i]? = some (some v)) {H2 : Hp} {σ2 : L2.St} {ρ2 : Rho} {Fs2 : Nat → List Addr}
    (E2 : En h ⟨G.g, qAll h H (setF Fs i [])⟩ H2 σ2 ρ2 Fs2) (hl : lcks ρ2 = lcks (ρ.set i (.lck v d))) : En h G H2 σ2 (ρ2.set i (.own d)) (setF Fs2 i (Fs i)) := by
  have hi : i < ρ.length := (List.getElem?_eq_some_iff.mp e).1
  have E1 := E.lock e ev
  have hlen : ρ2.length = ρ.length := by
    have := congrArg List.length hl
    simpa [lcks] using this
  have q_some : ∀ {a : Addr} {x : HO}, G.q a = some x → qAll h H (setF Fs i []) a = some x := fun {a x} e3 => by
    rw [qAll_some (fun c => by
      rcases c with c | ⟨k, c⟩
      · rw [c, E.qp] at e3; cases e3
      · by_cases y : k = i
        · subst y; rw [setF_same] at c; cases c
        · rw [setF_ne y] at c; rw [(E.own k a c).2] at e3; cases e3)]
    exact E.hold a x e3
  have at_lck : ∀ {j : Nat} {v' : V} {d' : D}, ρ2[j]? = some (.lck v' d') → (ρ.set i (.lck v d))[j]? = some (.lck v' d') := fun {j v' d'} e3 => by
    have e4 : (lcks ρ2)[j]? = some (some (v', d')) := by unfold lcks; rw [List.getElem?_map, e3]; rfl
    rw [hl] at e4
    unfold lcks at e4
    rw [List.getElem?_map] at e4
    obtain ⟨s', es, e5⟩ := Option.map_eq_some_iff.mp e4
    cases s' with
    | no => cases e5
    | own d' => cases e5
    | bor d' => cases e5
    | lck v' d' => cases e5; exact es
  have li : ρ2[i]? = some (.lck v d) := by
    have e4 : (lcks (ρ.set i (.lck v d)))[i]? = some (some (v, d)) := by unfold lcks; rw [List.getElem?_map, List.getElem?_set_self hi]; rfl
    rw [← hl] at e4
    unfold lcks at e4
    rw [List.getElem?_map] at e4
    obtain ⟨s', es, e5⟩ := Option.map_eq_some_iff.mp e4
    cases s' with
    | no => cases e5
    | own d' => cases e5
    | bor d' => cases e5
    | lck v' d' => cases e5; exact es
  obtain ⟨x2, ex2, f2, ev2, _⟩ := E2.rep i _ li
  have f2 : Fs2 i = [] := f2
  obtain ⟨x, ex, v', ev', r, nf⟩ := E.rep i _ e
  rw [ev] at ex
  cases ex
  cases ev'
  have inq : ∀ {a : Addr}, a ∈ Fs i → qAll h H (setF Fs i []) a = H a := fun {a} ha => qAll_some fun c => by
    rcases c with c | ⟨k, c⟩
    · exact E.np ha c
    · by_cases y : k = i
      · subst y; rw [setF_same] at c; cases c
      · rw [setF_ne y] at c; exact y (E.dis k i a c ha)
  have same : ∀ {a : Addr}, a ∈ Fs i → ∃ y, H a = some y ∧ H2 a = some y := fun {a} ha => by
    obtain ⟨y, ey⟩ := E.there ha
    exact ⟨y, ey, E2.hold a y (by show qAll h H (setF Fs i []) a = some y; rw [inq ha]; exact ey)⟩
  refine ⟨E2.keep, fun b x e => E2.hold b x (q_some e), E2.hand, E2.gp, E2.gc, E.qp, by simp [E2.len], fun j s ej => ?_, fun j hj => ?_, fun j k a hj hk => ?_, fun j => ?_, fun j a hj => ⟨?_, ?_⟩⟩
  · by_cases z : j = i
    · subst z
      rw [List.getElem?_set_self (by rw [hlen]; exact hi)] at ej
      cases ej
      refine ⟨x2, ex2, ?_⟩
      rw [setF_same, ev2]
      refine ⟨v, rfl, E1.held (fun b x e => E2.hold b x e) r fun a ha => ⟨E.np ha, fun k hk => ?_⟩, fun a ha o u z => ?_⟩
      · by_cases y : k = j
        · subst y; rw [setF_same] at hk; cases hk
        · rw [setF_ne y] at hk; exact y (E.dis k j a hk ha)
      · obtain ⟨y, y1, y2⟩ := same ha
        rw [z] at y2
        cases y2
        exact nf a ha _ _ y1
    · rw [List.getElem?_set_ne (Ne.symm z)] at ej
      obtain ⟨x3, ex3, r3⟩ := E2.rep j s ej
      refine ⟨x3, ex3, ?_⟩
      rw [setF_ne z]
      cases s with
      | no => exact r3
      | own d => exact r3
      | bor d => exact r3
      | lck v2 d2 =>
        have es := at_lck ej
        rw [List.getElem?_set_ne (Ne.symm z)] at es
        obtain ⟨x', _, _, _, F1, r1, q1⟩ := E.rep j _ es
        refine ⟨r3.1, r3.2.1, F1, E1.held (fun b x e => E2.hold b x e) r1 fun a ha => ⟨(q1 a ha).2, fun k hk => ?_⟩, q1⟩
        by_cases y : k = i
        · subst y; rw [setF_same] at hk; cases hk
        · rw [setF_ne y] at hk; exact (q1 a ha).1 (E.own k a hk).2
  · rw [List.length_set] at hj
    by_cases z : j = i
    · subst z; rw [hlen] at hj; omega
    · rw [setF_ne z]; exact E2.out j hj
  · by_cases z : j = i
    · by_cases y : k = i
      · rw [z, y]
      · subst z
        rw [setF_same] at hj
        rw [setF_ne y] at hk
        have n : qAll h H (setF Fs j []) a = none := (E2.own k a hk).2
        obtain ⟨y1, e1⟩ := E.there hj
        rw [inq hj, e1] at n; cases n
    · by_cases y : k = i
      · subst y
        rw [setF_same] at hk
        rw [setF_ne z] at hj
        have n : qAll h H (setF Fs k []) a = none := (E2.own j a hj).2
        obtain ⟨y1, e1⟩ := E.there hk
        rw [inq hk, e1] at n; cases n
      · rw [setF_ne z] at hj; rw [setF_ne y] at hk; exact E2.dis j k a hj hk
  · by_cases z : j = i
    · subst z; rw [setF_same]; exact E.nod j
    · rw [setF_ne z]; exact E2.nod j
  · by_cases z : j = i
    · subst z; rw [setF_same] at hj; exact (E.own j a hj).1
    · rw [setF_ne z] at hj; exact (E2.own j a hj).1
  · by_cases z : j = i
    · subst z; rw [setF_same] at hj; exact (E.own j a hj).2
    · rw [setF_ne z] at hj
      cases e3 : G.q a with
      | none => rfl
      | some y =>
        have n : qAll h H (setF Fs i []) a = none := (E2.own j a hj).2
        rw [q_some e3] at n; cases n
end
end PL

namespace PL
open PySem PySem.Spec PyProof.Rows L2

/-! ### what may be walked: a list, a tuple, a text -/
inductive Sk where
  | lst (a : Addr)
  | tup (a : Addr)
  | txt (z : Str) (t : Tok)
def Sk.val : Sk → Value
  | .lst a => .ref a
  | .tup a => .ref a
  | .txt z t => .str z t
def Sk.v : Sk → V
  | .lst a => .ref a
  | .tup a => .ref a
  | .txt z _ => .str z
def Sk.iter (it : Addr) (i : Nat) (h : Heap) : Sk → Prop
  | .lst a => h.IsListIter it a i
  | .tup a => h.IsTupleIter it a i
  | .txt z t => h.IsStrIter it (strIterType z) z t i
def Sk.sq (K : PySem.W.Frag) (H : Hp) (xs : List V) : Sk → Prop
  | .lst a => SqL K H a xs
  | .tup a => SqT K H a xs
  | .txt z _ => xs = z.cps.toList.map fun c => V.str ⟨#[c]⟩
def Sk.obj : Sk → Obj
  | .lst a => { cls := .type "list_iterator", data := .fields #[.ref a, .int 0 0] }
  | .tup a => { cls := .type "tuple_iterator", data := .fields #[.ref a, .int 0 0] }
  | .txt z t => { cls := .type (strIterType z), data := .fields #[.str z t, .int 0 0] }
def Sk.below (N : Nat) : Sk → Prop
  | .lst a => a < N
  | .tup a => a < N
  | .txt _ _ => True
section
variable {X : Cx} {pins : List (Addr × Obj)} {σ : L2.St} {H : Hp} {s : Shared} {k : Sk} {xs ys : List V}
theorem Sk.iter_keep {it : Addr} {i : Nat} {h h' : Heap} (e : ∀ o, h.get? it = some o → h'.get? it = some o) : ∀ {k : Sk}, k.iter it i h → k.iter it i h'
  | .lst a, st => Heap.IsListIter.at st fun o q => e o q
  | .tup a, st => Heap.IsTupleIter.at st fun o q => e o q
  | .txt z t, st => let ⟨o, ho, r⟩ := st; ⟨o, e o ho, r⟩
theorem Sk.iter_obj {it : Addr} {i : Nat} {h : Heap} : ∀ {k : Sk}, k.iter it i h → ∃ o, h.get? it = some o ∧ ∀ v, o.data ≠ .cell v
  | .lst a, ⟨o, e, _, d⟩ => ⟨o, e, fun v q => by rw [d] at q; cases q⟩
  | .tup a, ⟨o, e, _, d⟩ => ⟨o, e, fun v q => by rw [d] at q; cases q⟩
  | .txt z t, ⟨o, e, _, d⟩ => ⟨o, e, fun v q => by rw [d] at q; cases q⟩
theorem Sk.iter_start {it : Addr} {h : Heap} : ∀ {k : Sk}, h.get? it = some k.obj → k.iter it 0 h
  | .lst a, e => ⟨_, e, rfl, rfl⟩
  | .tup a, e => ⟨_, e, rfl, rfl⟩
  | .txt z t, e => ⟨_, e, rfl, rfl⟩
/-- the iterator's draws, where the state stands -/
theorem Sk.draws (I : Inv X pins σ H s) (hh : X.A.handled = none) : ∀ {k : Sk}, k.sq X.K H xs → ∀ (it : Addr) (N : Nat), k.below N → N ≤ it → ∃ (P : Nat → Value → Prop) (St : Nat → Heap → Prop) (fp : List Addr),
    (∀ A : Around, A.handled = none → Draws X.prog X.w A it (it :: fp) xs.length P St) ∧ (∀ b ∈ fp, b < N) ∧ (∀ i, k.iter it i s.heap → St i s.heap) ∧ (∀ i h, St i h → k.iter it i h) ∧ ∀ i v, P i v → ∃ x, xs[i]? = some x ∧ RelV x v
  | .lst a, hq, it, N, hb, hN => by
    obtain ⟨its, rv, p, hz⟩ := I.list hq
    have hb : a < N := hb
    refine ⟨fun i v => its.toArray[i]? = some v, fun i h => h.IsListIter it a i ∧ h.IsList a its.toArray, [a], fun A hA => ?_, fun b hb' => ?_, fun i st => ⟨st, p.isList⟩, fun i h st => st.1, fun i v e => ?_⟩
    · have := Draws.list (prog := X.prog) (w := X.w) (A := A) hA it a (Nat.ne_of_lt (Nat.lt_of_lt_of_le hb hN)) its.toArray
      rw [List.size_toArray, ← rv.length] at this
      exact this
    · have e : b = a := by simpa using hb'
      rw [e]; exact hb
    · have e : its[i]? = some v := by simpa using e
      cases q : xs[i]? with
      | none => rw [rv.none_of q] at e; cases e
      | some x =>
        obtain ⟨u, hu, ru⟩ := rv.get q
        rw [hu] at e; cases e
        exact ⟨x, rfl, ru⟩
  | .tup a, hq, it, N, hb, hN => by
    obtain ⟨its, rv, p, hz⟩ := I.tuple hq
    have hb : a < N := hb
    refine ⟨fun i v => its.toArray[i]? = some v, fun i h => h.IsTupleIter it a i ∧ h.IsTuple a its.toArray, [a], fun A hA => ?_, fun b hb' => ?_, fun i st => ⟨st, p⟩, fun i h st => st.1, fun i v e => ?_⟩
    · have := Draws.tuple (prog := X.prog) (w := X.w) (A := A) hA it a (Nat.ne_of_lt (Nat.lt_of_lt_of_le hb hN)) its.toArray
      rw [List.size_toArray, ← rv.length] at this
      exact this
    · have e : b = a := by simpa using hb'
      rw [e]; exact hb
    · have e : its[i]? = some v := by simpa using e
      cases q : xs[i]? with
      | none => rw [rv.none_of q] at e; cases e
      | some x =>
        obtain ⟨u, hu, ru⟩ := rv.get q
        rw [hu] at e; cases e
        exact ⟨x, rfl, ru⟩
  | .txt z t, hq, it, N, hb, hN => by
    have hq : xs = z.cps.toList.map fun c => V.str ⟨#[c]⟩ := hq
    subst hq
    refine ⟨fun i v => ∃ c u, z.cps[i]? = some c ∧ v = .str ⟨#[c]⟩ u, fun i h => h.IsStrIter it (strIterType z) z t i, [], fun A hA => ?_, fun b hb' => (nomatch hb'), fun i st => st, fun i h st => st, fun i v e => ?_⟩
    · have := Draws.text (prog := X.prog) (w := X.w) (A := A) hA it z t
      rw [List.length_map, Array.length_toList]
      exact this
    · obtain ⟨c, u, e1, e2⟩ := e
      subst e2
      exact ⟨.str ⟨#[c]⟩, by rw [List.getElem?_map, Array.getElem?_toList, e1]; rfl, ⟨u, rfl⟩⟩
theorem Sk.inj (I : Inv X pins σ H s) : ∀ {k : Sk}, k.sq X.K H xs → k.sq X.K H ys → xs = ys
  | .lst a, h, h' => I.list_inj h h'
  | .tup a, h, h' => I.tuple_inj h h'
  | .txt z t, h, h' => by rw [show xs = _ from h, show ys = _ from h']
theorem Sk.lt (I : Inv X pins σ H s) : ∀ {k : Sk}, k.sq X.K H xs → k.below s.heap.objs.size
  | .lst a, h => by obtain ⟨_, _, p, _⟩ := I.list h; exact p.lt
  | .tup a, h => by obtain ⟨_, _, p, _⟩ := I.tuple h; exact p.lt
  | .txt z t, _ => trivial

/-! ### zip -/
def ItZ (K : PySem.W.Frag) (k l : Sk) : It :=
  ⟨fun i H => ∃ (xs ys : List V) (x y : V), k.sq K H xs ∧ l.sq K H ys ∧ xs[i]? = some x ∧ ys[i]? = some y,
    fun i H v H' => ∃ T x y, v = .ref T ∧ H T = none ∧ H' = upd H T (.tup [x, y]) ∧ (∀ xs, k.sq K H xs → xs[i]? = some x) ∧ ∀ ys, l.sq K H ys → ys[i]? = some y,
    fun i H => ∃ xs ys : List V, k.sq K H xs ∧ l.sq K H ys ∧ i ≤ xs.length ∧ i ≤ ys.length ∧ (i = xs.length ∨ i = ys.length)⟩
theorem turn_Z {P : Program} {w : World} {K : PySem.W.Frag} {elts : List Expr} {kk : Nat} {tpos : Pos} {k l : Sk} {N : Nat} (bk : k.below N) (bl : l.below N) :
    Turn P w K (.Tuple elts kk tpos) (ItZ K k l) [N + 4, N + 2, N + 3, N, N + 1] (N + 4) (fun i h => IsZip h (N + 4) (N + 2) (N + 3) .none ∧ IsTupOf2 h (N + 2) (.ref N) (.ref (N + 1)) ∧ (∃ x y, IsTupOf2 h (N + 3) x y) ∧ k.iter N i h ∧ l.iter (N + 1) i h) where
  mem := by simp
  obj := fun i h st c hc => by
    obtain ⟨hz, hTI, ⟨x, y, hTO⟩, h1, h2⟩ := st
    have e' : c = N + 4 ∨ c = N + 2 ∨ c = N + 3 ∨ c = N ∨ c = N + 1 := by simpa using hc
    rcases e' with q | q | q | q | q
    · rw [q]; exact ⟨_, hz, fun v q => nomatch q⟩
    · rw [q]; exact ⟨_, hTI, fun v q => nomatch q⟩
    · rw [q]; exact ⟨_, hTO, fun v q => nomatch q⟩
    · rw [q]; exact Sk.iter_obj h1
    · rw [q]; exact Sk.iter_obj h2
  keep := fun i h h' st kp => by
    obtain ⟨hz, hTI, ⟨x, y, hTO⟩, h1, h2⟩ := st
    exact ⟨kp _ (by simp) _ hz, kp _ (by simp) _ hTI, ⟨x, y, kp _ (by simp) _ hTO⟩, Sk.iter_keep (fun o q => kp _ (by simp) o q) h1, Sk.iter_keep (fun o q => kp _ (by simp) o q) h2⟩
  item := by
    intro X hP hw hK hc i pins s σ H E I hf st hg
    subst hP hw hK
    obtain ⟨hz, hTI, ⟨x0, y0, hTO⟩, h1, h2⟩ := st
    obtain ⟨xs, ys, x, y, hqx, hqy, hx, hy⟩ := hg
    obtain ⟨P1, St1, fp1, D1, b1, a1, c1, d1⟩ := Sk.draws I (I.ok.hd hc) hqx N N bk (Nat.le_refl _)
    obtain ⟨P2, St2, fp2, D2, b2, a2, c2, d2⟩ := Sk.draws I (I.ok.hd hc) hqy (N + 1) N bl (Nat.le_succ _)
    have hzl : N + 4 < s.heap.objs.size := Heap.lt_size hz
    have S := zip_sep2 (N := N) b1 b2
    have hlx : i < xs.length := (List.getElem?_eq_some_iff.mp hx).1
    have hly : i < ys.length := (List.getElem?_eq_some_iff.mp hy).1
    refine wpAny_pyNext_zipD2_item S (D1 X.A.in1 (I.ok.hd hc)) (D2 X.A.in1 (I.ok.hd hc)) hz hTI hTO (a1 i h1) (a2 i h2) hlx hly fun u u2 h' tk p1 p2 z' TO' s1 s2 hT hsz hk => ?_
    obtain ⟨x', ex, ru⟩ := d1 i u p1
    obtain ⟨y', ey, ru2⟩ := d2 i u2 p2
    rw [hx] at ex; cases ex
    rw [hy] at ey; cases ey
    refine ⟨_, rfl, wpAny_letOwnedTupleGo_zip (s := { s with heap := h', toks := tk }) z' fun h'' z'' sb => ?_⟩
    have hT2 : h''.get? s.heap.objs.size = some { cls := .type "tuple", data := .seq #[u, u2] } := (sb.2 _ (Nat.ne_of_gt hzl)).trans hT
    have new : ObjOk X.prog X.w (upd H s.heap.objs.size (.tup [x, y])) h'' s.heap.objs.size (.tup [x, y]) :=
      ⟨by show 2 ≤ sizeLine; decide, [u, u2], .cons ru (.cons ru2 .nil), ⟨_, hT2, rfl, _, rfl⟩⟩
    have I1 : Inv X pins σ (upd H s.heap.objs.size (.tup [x, y])) { s with heap := h'', toks := tk } :=
      I.turnedNew (t' := tk) (ch := [N + 4, N + 2, N + 3, N, N + 1]) (fun c o hb q => (sb.2 c (fun q' => hb (by simp [q']))).trans (hk c o (fun q' => hb (by simp [q'])) (fun q' => hb (by simp [q'])) (fun q' => hb (by simp [q'])) (fun q' => hb (by simp [q'])) q)) hf (Nat.le_refl _) new
    refine ⟨.ref s.heap.objs.size, _, I1, rfl, ⟨_, x, y, rfl, I.hok.fresh (Nat.le_refl _), rfl, fun l hl => by rw [Sk.inj I hl hqx]; exact hx, fun l hl => by rw [Sk.inj I hl hqy]; exact hy⟩, ⟨z'', ?_, ⟨u, u2, ?_⟩, ?_, ?_⟩, fun c hcm => ?_⟩
    · exact (sb.2 _ S.TIz).trans (hk _ _ S.TIz S.TITO S.TIi1 S.TIi2 hTI)
    · exact (sb.2 _ S.TOz).trans TO'
    · exact Sk.iter_keep (fun o q => (sb.2 _ (fun e => S.zi1 e.symm)).trans q) (c1 _ _ s1)
    · exact Sk.iter_keep (fun o q => (sb.2 _ (fun e => S.zi2 e.symm)).trans q) (c2 _ _ s2)
    · have hlt : c < s.heap.objs.size := by
        have e' : c = N + 4 ∨ c = N + 2 ∨ c = N + 3 ∨ c = N ∨ c = N + 1 := by simpa using hcm
        have hzl : (N : Nat) + 4 < s.heap.objs.size := hzl
        rcases e' with q | q | q | q | q <;> (rw [q]; first | exact hzl | exact Nat.lt_trans (by omega) hzl)
      rw [upd_ne (Nat.ne_of_lt hlt)]
      exact (hf c hcm).1
  done := by
    intro X hP hw hK hc i pins s σ H E I hf st hg
    subst hP hw hK
    obtain ⟨hz, hTI, ⟨x0, y0, hTO⟩, h1, h2⟩ := st
    obtain ⟨xs, ys, hqx, hqy, l1, l2, hend⟩ := hg
    obtain ⟨P1, St1, fp1, D1, b1, a1, c1, d1⟩ := Sk.draws I (I.ok.hd hc) hqx N N bk (Nat.le_refl _)
    obtain ⟨P2, St2, fp2, D2, b2, a2, c2, d2⟩ := Sk.draws I (I.ok.hd hc) hqy (N + 1) N bl (Nat.le_succ _)
    have S := zip_sep2 (N := N) b1 b2
    exact wpAny_pyNext_zipD2_end S (D1 X.A.in1 (I.ok.hd hc)) (D2 X.A.in1 (I.ok.hd hc)) hz hTI hTO (a1 i h1) (a2 i h2) l1 l2 hend fun h' tk hk => ⟨rfl, I.turnedL (t' := tk) (ch := [N + 4, N + 2, N + 3, N, N + 1]) (fun c o hb q =>
      hk c o (fun q' => hb (by simp [q'])) (fun q' => hb (by simp [q'])) (fun q' => hb (by simp [q'])) (fun q' => hb (by simp [q'])) q) hf⟩
  self := fun A i s Q E st h => wpAny_pyIter_zip st.1 h
/-! ### enumerate -/
def ItE (K : PySem.W.Frag) (k : Sk) : It :=
  ⟨fun i H => ∃ (xs : List V) (x : V), k.sq K H xs ∧ xs[i]? = some x, fun i H v H' => ∃ T x, v = .ref T ∧ H T = none ∧ H' = upd H T (.tup [.int (i : Nat), x]) ∧ ∀ xs, k.sq K H xs → xs[i]? = some x, fun i H => ∃ xs : List V, k.sq K H xs ∧ i = xs.length⟩
theorem turn_E {P : Program} {w : World} {K : PySem.W.Frag} {elts : List Expr} {kk : Nat} {tpos : Pos} {k : Sk} {N : Nat} (bk : k.below N) :
    Turn P w K (.Tuple elts kk tpos) (ItE K k) [N + 1, N] (N + 1) (fun i h => (∃ old, IsEnum h (N + 1) N ((i : Nat) : Int) old) ∧ k.iter N i h) where
  mem := by simp
  obj := fun i h st b hb => by
    obtain ⟨⟨old, he⟩, hi⟩ := st
    have e' : b = N + 1 ∨ b = N := by simpa using hb
    rcases e' with z | z
    · rw [z]; exact ⟨_, he, fun v q => nomatch q⟩
    · rw [z]; exact Sk.iter_obj hi
  keep := fun i h h' st kp => let ⟨⟨old, he⟩, hi⟩ := st; ⟨⟨old, kp _ (by simp) _ he⟩, Sk.iter_keep (fun o q => kp N (by simp) o q) hi⟩
  item := by
    intro X hP hw hK hc i pins s σ H E I hf st hg
    subst hP hw hK
    obtain ⟨⟨old, he⟩, hit⟩ := st
    obtain ⟨xs, x, hq, hx⟩ := hg
    obtain ⟨P1, St1, fp1, D1, b1, a1, c1, d1⟩ := Sk.draws I (I.ok.hd hc) hq N N bk (Nat.le_refl _)
    have hel : (N : Nat) + 1 < s.heap.objs.size := Heap.lt_size he
    have hlx : i < xs.length := (List.getElem?_eq_some_iff.mp hx).1
    have hne : N + 1 ≠ N := Nat.succ_ne_self N
    have hef : N + 1 ∉ N :: fp1 := notIn_new (i := 0) b1 (by omega)
    refine wpAny_pyNext_enum_itemC (D1 X.A.in1 (I.ok.hd hc)) he (a1 i hit) hlx hne hef fun u h' tk p1 ho st' hT hsz hk => ?_
    obtain ⟨x', ex, ru⟩ := d1 i u p1
    rw [hx] at ex; cases ex
    refine ⟨_, rfl, wpAny_letOwnedTupleGo_enum (s := { s with heap := h', toks := tk + 1 }) ho fun h'' he' sb => ?_⟩
    have hT2 : h''.get? s.heap.objs.size = some { cls := .type "tuple", data := .seq #[.int i tk, u] } := (sb.2 _ (Nat.ne_of_gt hel)).trans hT
    have new : ObjOk X.prog X.w (upd H s.heap.objs.size (.tup [.int (i : Nat), x])) h'' s.heap.objs.size (.tup [.int (i : Nat), x]) :=
      ⟨by show 2 ≤ sizeLine; decide, [.int i tk, u], .cons ⟨_, rfl⟩ (.cons ru .nil), ⟨_, hT2, rfl, _, rfl⟩⟩
    have I1 : Inv X pins σ (upd H s.heap.objs.size (.tup [.int (i : Nat), x])) { s with heap := h'', toks := tk + 1 } :=
      I.turnedNew (t' := tk + 1) (ch := [N + 1, N]) (fun b ob hb q => (sb.2 b (fun z => hb (by simp [z]))).trans (hk b ob (fun z => hb (by simp [z])) (fun z => hb (by simp [z])) q)) hf (Nat.le_refl _) new
    refine ⟨.ref s.heap.objs.size, _, I1, rfl, ⟨_, x, rfl, I.hok.fresh (Nat.le_refl _), rfl, fun ys hy => by rw [Sk.inj I hy hq]; exact hx⟩, ⟨⟨u, ?_⟩, Sk.iter_keep (fun o q => (sb.2 N (Ne.symm hne)).trans q) (c1 _ _ st')⟩, fun b hb => ?_⟩
    · have e1 : ((i + 1 : Nat) : Int) = (i : Int) + 1 := by omega
      rw [e1]; exact he'
    · have hb' : b < s.heap.objs.size := by
        have e' : b = N + 1 ∨ b = N := by simpa using hb
        rcases e' with z | z
        · rw [z]; exact hel
        · rw [z]; exact Nat.lt_trans (Nat.lt_succ_self N) hel
      rw [upd_ne (Nat.ne_of_lt hb')]
      exact (hf b hb).1
  done := by
    intro X hP hw hK hc i pins s σ H E I hf st hg
    subst hP hw hK
    obtain ⟨⟨old, he⟩, hit⟩ := st
    obtain ⟨xs, hq, hx⟩ := hg
    subst hx
    obtain ⟨P1, St1, fp1, D1, b1, a1, c1, d1⟩ := Sk.draws I (I.ok.hd hc) hq N N bk (Nat.le_refl _)
    obtain ⟨f0, f1, f2, f3, f4, f5⟩ := hf N (by simp)
    exact wpAny_pyNext_enum_endD (D1 X.A.in1 (I.ok.hd hc)) he (a1 _ hit) fun h' eb => ⟨rfl, I.turned (t' := s.toks) (fun b o hb q => eb b o hb q) f0 f1 f3 f4 f5⟩
  self := fun A i s Q E st h => let ⟨⟨_, he⟩, _⟩ := st; wpAny_pyIter_enum he h
set_option maxHeartbeats 1000000 in
theorem meets_enumerate_newB1 {v : Value} {o : Obj} {H : Heap → Prop} (B : Begins v o H) :
    Meets (Builtin.«enumerate.__new__» ⟨[.type "enumerate", v], []⟩) (fun _ R s => H s.heap ∧
      R (.ok (.ret (.ref (s.heap.push o).objs.size))) { s with heap := (s.heap.push o).push { cls := .type "enumerate", data := .fields #[.none, .bool false, .ref s.heap.objs.size, rawInt 0, .none, .none] } }) :=
  .of_wp fun prog w A R s h => by
    obtain ⟨hp, g, d, tk, os⟩ := s; obtain ⟨h1, h⟩ := h
    have hsub := sub_enumerate
    have q1 : ∀ {A' : Around} {E : Value → Shared → Prop} {Q : Value → Shared → Prop}, Q (.ref hp.objs.size) ⟨hp.push o, g, d, tk, os⟩ → wpAny (model prog w) A' (pyIter v) Q E ⟨hp, g, d, tk, os⟩ :=
      fun q => B.iter prog w _ _ ⟨hp, g, d, tk, os⟩ _ h1 q
    wp_walk using q1
    refine wpAny_stack_any fun st => wpAny_pure ?_
    split
    · rename_i c _ _ _ _ _
      cases (c == Value.type "enumerate")
      · wp_walk using q1
        exact ⟨_, rfl, h⟩
      · wp_walk using q1
        exact ⟨_, rfl, h⟩
    · wp_walk using q1
      exact ⟨_, rfl, h⟩
theorem enum_begins1 {prog : Program} {w : World} {A : Around} {E : Value → Shared → Prop} {s : Shared} {v : Value} {o : Obj} {H : Heap → Prop} {Q : Value → Shared → Prop} (B : Begins v o H) (h1 : H s.heap)
    (h : ∀ h', IsEnum h' (s.heap.objs.size + 1) s.heap.objs.size 0 .none → h'.get? s.heap.objs.size = some o → h'.objs.size = s.heap.objs.size + 2 →
      (∀ b o, s.heap.get? b = some o → h'.get? b = some o) → Q (.ref (s.heap.objs.size + 1)) { s with heap := h' }) :
    wpAny (model prog w) A (call (.type "enumerate") [v]) Q E s := by
  refine callType_new F.called_enumerate (by decide) (F.typeCall_enumerate_1 _) (F.newCall_enumerate_1 _) (fun obj => F.args_object_init_2 obj _) F.entry_enumerate_new
    (meets_enumerate_newB1 B) ⟨h1, ?_⟩
  have hz : (s.heap.push o).objs.size = s.heap.objs.size + 1 := Heap.size_push ..
  show _ ∧ _
  rw [hz]
  have he : IsEnum ((s.heap.push o).push { cls := .type "enumerate", data := .fields #[.none, .bool false, .ref s.heap.objs.size, rawInt 0, .none, .none] }) (s.heap.objs.size + 1) s.heap.objs.size 0 .none := by
    have := Heap.get?_push_size (s.heap.push o) (o := { cls := .type "enumerate", data := .fields #[.none, .bool false, .ref s.heap.objs.size, rawInt 0, .none, .none] }) rfl
    rw [hz] at this; exact this
  refine ⟨⟨_, he, rfl⟩, h _ he (Heap.get?_push_of_some _ (Heap.get?_push_size _ B.free)) (by rw [Heap.size_push, hz]) fun b o x => Heap.get?_push_of_some _ (Heap.get?_push_of_some _ x)⟩

/-! ### the walked thing by its value -/
def SkV (K : PySem.W.Frag) (H : Hp) (x : V) (xs : List V) : Prop := (∃ a, x = .ref a ∧ (SqL K H a xs ∨ SqT K H a xs)) ∨ ∃ z, x = .str z ∧ xs = z.cps.toList.map fun c => V.str ⟨#[c]⟩
theorem SkV.kind (I : Inv X pins σ H s) {x : V} {u : Value} (r : RelV x u) (q : SkV X.K H x xs) : ∃ k : Sk, k.val = u ∧ k.v = x ∧ k.sq X.K H xs ∧ ∃ Hq : Heap → Prop, Begins u k.obj Hq ∧ Hq s.heap := by
  rcases q with ⟨a, rfl, q | q⟩ | ⟨z, rfl, rfl⟩
  · cases r
    obtain ⟨its, rv, p, hz⟩ := I.list q
    exact ⟨.lst a, rfl, rfl, q, _, begins_list a its.toArray, p.isList⟩
  · cases r
    obtain ⟨its, rv, p, hz⟩ := I.tuple q
    exact ⟨.tup a, rfl, rfl, q, _, begins_tuple a its.toArray, p⟩
  · obtain ⟨t, rfl⟩ := r
    exact ⟨.txt z t, rfl, rfl, rfl, _, begins_text z t, trivial⟩
def iZ (K : PySem.W.Frag) (ta : TA) : TI := fun σ H R => ta σ H fun vs H1 => ∃ x y xs ys, vs = [x, y] ∧ SkV K H1 x xs ∧ SkV K H1 y ys ∧ ∀ k l : Sk, k.sq K H1 xs → l.sq K H1 ys → k.v = x → l.v = y → R (ItZ K k l) H1
theorem pi_Z {e e2 : Expr} {ta : TA} {p pos tpos : Pos} {elts : List Expr} {kk : Nat} (hg : Gl X "zip") (hm : X.mg "zip" = none) (ha : PA X [e, e2] ta)
    (hs : starEach [e, e2] X.env = (false, eval e X.env) :: starEach [e2] X.env := by rfl) (hpl : (backTo pos (starEach [e2] X.env)).any (·.1) = false := by rfl) :
    PI X (.Tuple elts kk tpos) (.Call (.Name "zip" p) [e, e2] [] pos) (iZ X.K ta) := by
  refine ⟨fun pins s σ H R I h => ?_⟩
  refine Call_ (ld_blt I hg hm PyProof.Rows.boot_zip (PyProof.Rows.callWith_type1 (thn (ha.run pos pins s σ H _ I h) fun us s1 ⟨vs, H1, I1, r1, q1⟩ => ?_) hs hpl))
  obtain ⟨x, y, xs, ys, ex, hqx, hqy, q⟩ := q1
  subst ex
  obtain ⟨u1, u2, rfl, r1', r2'⟩ := vals2 r1
  obtain ⟨k, ek, ekv, kq, Hk, Bk, hk0⟩ := hqx.kind I1 r1'
  obtain ⟨l, el, elv, lq, Hl, Bl, hl0⟩ := hqy.kind I1 r2'
  refine zip_begins2 Bk Bl hk0 hl0 fun h' hz hTI hTO g1 g2 hsz hk => wpAny_pyIter_zip hz ?_
  have I2 : Inv X pins σ H1 { s1 with heap := h' } := I1.kept (t' := s1.toks) hk
  refine ⟨s1.heap.objs.size + 4, [s1.heap.objs.size + 4, s1.heap.objs.size + 2, s1.heap.objs.size + 3, s1.heap.objs.size, s1.heap.objs.size + 1], _, _, H1, rfl, I2, turn_Z (Sk.lt I1 kq) (Sk.lt I1 lq), ⟨hz, hTI, ⟨_, _, hTO⟩, Sk.iter_start g1, Sk.iter_start g2⟩, fun c hcm => ?_, q k l kq lq ekv elv⟩
  have e' : c = s1.heap.objs.size + 4 ∨ c = s1.heap.objs.size + 2 ∨ c = s1.heap.objs.size + 3 ∨ c = s1.heap.objs.size ∨ c = s1.heap.objs.size + 1 := by simpa using hcm
  have hle : s1.heap.objs.size ≤ c := by
    rcases e' with z | z | z | z | z
    · rw [z]; exact Nat.le_add_right _ _
    · rw [z]; exact Nat.le_add_right _ _
    · rw [z]; exact Nat.le_add_right _ _
    · rw [z]; exact Nat.le_refl _
    · rw [z]; exact Nat.le_add_right _ _
  exact I1.fpOk hle (I1.hok.fresh hle)
def iE (K : PySem.W.Frag) (ta : TA) : TI := fun σ H R => ta σ H fun vs H1 => ∃ x xs, vs = [x] ∧ SkV K H1 x xs ∧ ∀ k : Sk, k.sq K H1 xs → k.v = x → R (ItE K k) H1
theorem pi_E {e : Expr} {ta : TA} {p pos tpos : Pos} {elts : List Expr} {kk : Nat} (hg : Gl X "enumerate") (hm : X.mg "enumerate" = none) (ha : PA X [e] ta) (hs : starEach [e] X.env = [(false, eval e X.env)] := by rfl) :
    PI X (.Tuple elts kk tpos) (.Call (.Name "enumerate" p) [e] [] pos) (iE X.K ta) := by
  refine ⟨fun pins s σ H R I h => ?_⟩
  refine Call_ (ld_blt I hg hm boot_enumerate (PyProof.Rows.callWith_type1 (thn (ha.run pos pins s σ H _ I h) fun us s1 ⟨vs, H1, I1, r1, q1⟩ => ?_) hs rfl))
  obtain ⟨x, xs, ex, hqx, q⟩ := q1
  subst ex
  obtain ⟨u1, rfl, r1'⟩ := vals1 r1
  obtain ⟨k, ek, ekv, kq, Hk, Bk, hk0⟩ := hqx.kind I1 r1'
  refine enum_begins1 Bk hk0 fun h' he g1 hsz hk => wpAny_pyIter_enum he ?_
  have I2 : Inv X pins σ H1 { s1 with heap := h' } := I1.kept (t' := s1.toks) hk
  refine ⟨s1.heap.objs.size + 1, [s1.heap.objs.size + 1, s1.heap.objs.size], _, _, H1, rfl, I2, turn_E (Sk.lt I1 kq), ⟨⟨.none, he⟩, Sk.iter_start g1⟩, fun b hb => ?_, q k kq ekv⟩
  have e' : b = s1.heap.objs.size + 1 ∨ b = s1.heap.objs.size := by simpa using hb
  have hle : s1.heap.objs.size ≤ b := by
    rcases e' with z | z
    · rw [z]; exact Nat.le_add_right _ _
    · rw [z]; exact Nat.le_refl _
  exact I1.fpOk hle (I1.hok.fresh hle)
/-- a list, a tuple or a text, walked: the kind is found when it is there -/
def ItS (K : PySem.W.Frag) (k : Sk) : It :=
  ⟨fun i H => ∃ (xs : List V) (x : V), k.sq K H xs ∧ xs[i]? = some x, fun i H x H' => H' = H ∧ ∀ xs, k.sq K H xs → xs[i]? = some x, fun i H => ∃ xs : List V, k.sq K H xs ∧ xs.length ≤ i⟩
theorem turn_S {P : Program} {w : World} {K : PySem.W.Frag} {tg : Expr} {it : Addr} : ∀ {k : Sk}, Turn P w K tg (ItS K k) [it] it (fun i h => k.iter it i h)
  | .lst a => turn_list a it
  | .tup a => turn_tuple a it
  | .txt z t => by
    have T := turn_str (P := P) (w := w) (K := K) (tg := tg) it z t (strIterType z) (by
      unfold strIterType
      split
      · exact .inl rfl
      · exact .inr rfl)
    refine ⟨T.mem, T.obj, T.keep, ?_, ?_, T.self⟩
    · intro X hP hw hK hc i pins s σ H E I hf st hg
      obtain ⟨xs, x, hq, hx⟩ := hg
      have hq : xs = _ := hq
      subst hq
      refine thn (T.item X hP hw hK hc i pins s σ H E I hf st (by
        have := (List.getElem?_eq_some_iff.mp hx).1
        rw [List.length_map, Array.length_toList] at this
        exact this)) fun r s1 ⟨u, h1, h2⟩ => ⟨u, h1, thn h2 fun _ s2 ⟨x', H', I', r', y, t', n⟩ => ⟨x', H', I', r', ?_, t', n⟩⟩
      obtain ⟨e, c, hc', ev⟩ := y
      refine ⟨e, fun xs' hq' => ?_⟩
      have hq' : xs' = _ := hq'
      rw [hq', List.getElem?_map, Array.getElem?_toList, hc', ev]; rfl
    · intro X hP hw hK hc i pins s σ H E I hf st hg
      obtain ⟨xs, hq, hx⟩ := hg
      have hq : xs = _ := hq
      subst hq
      rw [List.length_map, Array.length_toList] at hx
      exact T.done X hP hw hK hc i pins s σ H E I hf st hx
def iS (K : PySem.W.Frag) (te : TE) : TI := fun σ H R => te σ H fun x H1 => ∃ xs, SkV K H1 x xs ∧ ∀ k : Sk, k.sq K H1 xs → k.v = x → R (ItS K k) H1
theorem pi_S {tg e : Expr} {te : TE} (he : PE X e te) : PI X tg e (iS X.K te) := by
  refine ⟨fun pins s σ H R I h => ?_⟩
  refine thn (he.run pins s σ H _ I h) fun v s1 ⟨x, H1, I1, r1, xs, hqx, q⟩ => ?_
  obtain ⟨k, ek, ekv, kq, Hk, Bk, hk0⟩ := hqx.kind I1 r1
  refine Bk.iter _ _ _ _ _ _ hk0 ?_
  refine ⟨s1.heap.objs.size, [s1.heap.objs.size], _, _, H1, rfl, I1.kept (t' := s1.toks) fun b o e => Heap.get?_push_of_some _ e, turn_S, Sk.iter_start (Heap.get?_push_size _ Bk.free), fun b hb => ?_, q k kq ekv⟩
  have e : b = s1.heap.objs.size := by simpa using hb
  subst e
  exact I1.fpOk (Nat.le_refl _) (I1.hok.fresh (Nat.le_refl _))
end
end PL

namespace PL
open PySem PySem.Spec PyProof.Rows L2

/-! ### walks, by data -/
structure Sta (h : Hd) (H1 : Hp) (F : List Addr) (H2 : Hp) : Prop where
  same : ∀ a ∈ F, ∀ x, H1 a = some x → H2 a = some x
  tup : ∀ z b xs, TupAt H1 z b xs → TupAt H2 z b xs
  hand : HandOk h H2
theorem Sta.of_keep {h : Hd} {H1 H2 : Hp} {F : List Addr} (ho : HandOk h H1) (k : Keep h H1 H2) (np : ∀ a ∈ F, a ≠ h.p) : Sta h H1 F H2 := ⟨fun a ha x e => k.same a x e (np a ha), k.tup, k.hand ho⟩
structure WkF (h : Hd) (H1 : Hp) (F : List Addr) (J : It) (items : List D) : Prop where
  go : ∀ H2, Sta h H1 F H2 → ∀ i d, items[i]? = some d → J.go i H2 ∧ ∀ x H3, J.yld i H2 x H3 → Keep h H2 H3 ∧ Rep h H3 d [] x
  stop : ∀ H2, Sta h H1 F H2 → J.stop items.length H2
abbrev WI := Rho → (List D → Prop) → Prop
/-- a value that no slot's own things are part of -/
def tH (h : Hd) (f : WE) : TE := fun σ H Q => ∃ G ρ Fs R, En h G H σ ρ Fs ∧ f ρ R ∧ ∀ d, R d → ∀ v H' F, Keep h H H' → Rep h H' d F v → (∀ a ∈ F, a ≠ h.p ∧ ∀ j, a ∉ Fs j) → Q v H'
def tI (h : Hd) (f : WI) : TI := fun σ H R => ∃ G ρ Fs Rr, En h G H σ ρ Fs ∧ f ρ Rr ∧ ∀ items, Rr items → ∀ J H' F, Keep h H H' → (∀ a ∈ F, a ≠ h.p ∧ (∃ x, H' a = some x) ∧ ∀ j, a ∉ Fs j) → WkF h H' F J items → R J H'
def seqOf : D → Option (List D)
  | .lst ds => some ds
  | .tup _ ds => some ds
  | .v (.str z) => some (signs z)
  | _ => none
def wHv (i : Nat) : WE := fun ρ R => match ρ[i]? with
  | some (.own d) => d.imm = true ∧ R d
  | some (.bor d) => R d
  | some (.lck _ d) => R d
  | _ => False
def wSeq (f : WE) : WI := fun ρ R => f ρ fun d => match seqOf d with
  | some ds => immL ds = true ∧ R ds
  | none => False
def wZip (f g : WE) : WI := fun ρ R => f ρ fun d => g ρ fun e => match seqOf d, seqOf e with
  | some ds, some es => immL ds = true ∧ immL es = true ∧ R (ds.zipWith (fun a b => .tup false [a, b]) es)
  | _, _ => False
def enumD (ds : List D) : List D := (List.range ds.length).zipWith (fun (i : Nat) a => .tup false [.v (.int i), a]) ds
def wEnum (f : WE) : WI := fun ρ R => f ρ fun d => match seqOf d with
  | some ds => immL ds = true ∧ R (enumD ds)
  | none => False
def rngD (lo : Int) (n : Nat) : List D := (List.range n).map fun (i : Nat) => .v (.int (lo + i))
def wRng1 (g : WA) : WI := fun ρ R => g ρ fun ds => match ds with
  | [.v (.int j)] => -(2 ^ 62) ≤ j ∧ j < 2 ^ 62 ∧ R (rngD 0 j.toNat)
  | _ => False
def wRng2 (g : WA) : WI := fun ρ R => g ρ fun ds => match ds with
  | [.v (.int i), .v (.int j)] => (-(2 ^ 62) ≤ i ∧ i < 2 ^ 62 ∧ -(2 ^ 62) ≤ j ∧ j < 2 ^ 62) ∧ R (rngD i (j - i).toNat)
  | _ => False
def rngC (lo c : Int) (n : Nat) : List D := (List.range n).map fun (i : Nat) => .v (.int (lo + (i : Nat) * c))
def wRng3 (g : WA) : WI := fun ρ R => g ρ fun ds => match ds with
  | [.v (.int i), .v (.int j), .v (.int c)] => ∃ n, RgC i j c n ∧ R (rngC i c n)
  | _ => False
section
variable {X : Cx} {e e2 : Expr} {es : List Expr} {h : Hd} {f g : WE} {ga : WA} {tg : Expr} {p pos tpos : Pos} {elts : List Expr} {kk : Nat}
theorem ph_f (p : PE X e (tF h f)) : PE X e (tH h f) := pe_imp p fun σ H Q w => by
  obtain ⟨G, ρ, Fs, R, E, w, c⟩ := w
  refine ⟨G, ρ, Fs, R, E, w, fun d r v H' F k q fr nd => c d r v H' F k q fun a ha => ⟨np_of E.hand (fr a ha).1, fun j hj => ?_⟩⟩
  obtain ⟨x, ex⟩ := E.there hj
  rw [(fr a ha).1] at ex; cases ex
theorem ph_v {i : Nat} (p : PE X e (tVar i)) : PE X e (tH h (wHv i)) := pe_imp p fun σ H Q w => by
  obtain ⟨G, ρ, Fs, R, E, w, c⟩ := w
  unfold wHv at w
  split at w
  · rename_i d hd
    obtain ⟨x, ex, v, ev, r, _⟩ := E.rep i _ hd
    subst ev
    have := Rep.imm _ _ _ w.1 r
    rw [this] at r
    exact ⟨v, ex, c d w.2 v H [] (Keep.refl H) r fun a ha => (nomatch ha)⟩
  · rename_i d hd
    obtain ⟨x, ex, eF, v, F1, ev, r, q⟩ := E.rep i _ hd
    subst ev
    exact ⟨v, ex, c d w v H _ (Keep.refl H) r fun a ha => ⟨(q a ha).2, fun j hj => (q a ha).1 (E.own j a hj).1⟩⟩
  · rename_i v d hd
    obtain ⟨x, ex, eF, ev, F1, r, q⟩ := E.rep i _ hd
    subst ev
    exact ⟨v, ex, c d w v H _ (Keep.refl H) r fun a ha => ⟨(q a ha).2, fun j hj => (q a ha).1 (E.own j a hj).2⟩⟩
  · exact w.elim
theorem repL_mono {H H2 : Hp} {ds : List D} {xs : List V} (ht : ∀ z b xs, TupAt H z b xs → TupAt H2 z b xs) (r : RepL h H ds [] xs) : RepL h H2 ds [] xs := RepL.mono ht ds [] xs (fun _ z => (nomatch z)) r
theorem rep_mono {H H2 : Hp} {d : D} {x : V} (ht : ∀ z b xs, TupAt H z b xs → TupAt H2 z b xs) (r : Rep h H d [] x) : Rep h H2 d [] x := Rep.mono ht d [] x (fun _ z => (nomatch z)) r
theorem not_frzl {H : Hp} {b : Addr} {o : Obj} {ys xs : List V} (kq : H b = some (.frz o (.lst ys))) : ∀ {z}, ¬ TupAt H z b xs
  | false, e3 => by have e3 : H b = some (.tup xs) := e3; rw [e3] at kq; cases kq
  | true, ⟨o', _, e3⟩ => by rw [e3] at kq; cases kq
/-- what a value's walk sees -/
theorem seq_skv {K : PySem.W.Frag} {H : Hp} {d : D} {F : List Addr} {v : V} {ds : List D} (q : Rep h H d F v) (e : seqOf d = some ds) (im : immL ds = true) :
    ∃ xs, SkV K H v xs ∧ RepL h H ds [] xs ∧ ∀ k : Sk, k.v = v → k.sq K H xs → ∀ H2, Sta h H F H2 → k.sq K H2 xs := by
  unfold seqOf at e
  split at e
  · cases e
    obtain ⟨a, xs, F1, rfl, eF, e3, r⟩ := q
    have := RepL.imm _ _ _ im r
    subst this
    refine ⟨xs, .inl ⟨a, rfl, .inl (.inl (.inl e3))⟩, r, fun k ek kq H2 st => ?_⟩
    cases k with
    | lst b =>
      have : b = a := by injection (show V.ref b = V.ref a from ek)
      subst this
      exact .inl (.inl (st.same b (by rw [eF]; simp) _ e3))
    | tup b =>
      have : b = a := by injection (show V.ref b = V.ref a from ek)
      subst this
      rcases kq with (kq | ⟨o, kq⟩) | kq
      · rw [e3] at kq; cases kq
      · rw [e3] at kq; cases kq
      · exact .inr kq
    | txt z t => cases ek
  · cases e
    obtain ⟨a, xs, rfl, e3, r⟩ := q
    have := RepL.imm _ _ _ im r
    subst this
    refine ⟨xs, .inl ⟨a, rfl, .inr e3.sq⟩, r, fun k ek kq H2 st => ?_⟩
    cases k with
    | lst b =>
      have : b = a := by injection (show V.ref b = V.ref a from ek)
      subst this
      rcases kq with (kq | ⟨o, kq⟩) | kq
      · exact absurd e3 (MutAt.not_tup (.inl ⟨_, kq⟩))
      · exact absurd e3 (not_frzl kq)
      · exact .inr kq
    | tup b =>
      have : b = a := by injection (show V.ref b = V.ref a from ek)
      subst this
      exact (st.tup _ _ _ e3).sq
    | txt z t => cases ek
  · cases e
    rename_i z
    refine ⟨_, .inr ⟨z, q.2, rfl⟩, repL_signs _, fun k ek kq H2 st => ?_⟩
    cases k with
    | lst b => rw [q.2] at ek; cases ek
    | tup b => rw [q.2] at ek; cases ek
    | txt z' t =>
      rw [q.2] at ek
      have : z' = z := by injection (show V.str z' = V.str z from ek)
      subst this
      rfl
  · cases e
theorem it_seq (p : PE X e (tH h f)) : PI X tg e (tI h (wSeq f)) := ⟨fun pins s σ H R I w => (pi_S p).run pins s σ H R I (by
  obtain ⟨G, ρ, Fs, Rr, E, w, c⟩ := w
  refine ⟨G, ρ, Fs, _, E, w, fun d wd v H1 F k1 q np => ?_⟩
  split at wd
  · rename_i ds e
    obtain ⟨xs, sk, r, hold⟩ := seq_skv (K := X.K) q e wd.1
    refine ⟨xs, sk, fun k kq ek => c ds wd.2 _ H1 F k1 (fun a ha => ⟨(np a ha).1, Rep.there _ _ _ q a ha, (np a ha).2⟩) ⟨fun H2 st i d' ei => ?_, fun H2 st => ?_⟩⟩
    · have kq2 := hold k ek kq H2 st
      have r2 := repL_mono st.tup r
      obtain ⟨F1, x, ex, rx, sub⟩ := r2.get ei
      have : F1 = [] := List.sublist_nil.mp sub
      subst this
      refine ⟨⟨xs, x, kq2, ex⟩, fun y H3 hy => ?_⟩
      obtain ⟨e3, hy⟩ := hy
      subst e3
      have := (hy xs kq2).symm.trans ex
      cases this
      exact ⟨Keep.refl _, rx⟩
    · exact ⟨xs, hold k ek kq H2 st, by rw [r.length]; exact Nat.le_refl _⟩
  · exact wd.elim)⟩
theorem zip_get {α β γ : Type} (f : α → β → γ) : ∀ {as : List α} {bs : List β} {i : Nat} {c : γ}, (as.zipWith f bs)[i]? = some c → ∃ a b, as[i]? = some a ∧ bs[i]? = some b ∧ f a b = c := by
  intro as bs i c e
  rw [List.getElem?_zipWith] at e
  cases h1 : as[i]? with
  | none => rw [h1] at e; cases e
  | some a =>
    cases h2 : bs[i]? with
    | none => rw [h1, h2] at e; cases e
    | some b =>
      rw [h1, h2] at e
      exact ⟨a, b, rfl, rfl, Option.some.inj e⟩
theorem rep_pair {H2 : Hp} {a b : D} {x y : V} {T : Addr} (n : H2 T = none) (ra : Rep h H2 a [] x) (rb : Rep h H2 b [] y) : Keep h H2 (upd H2 T (.tup [x, y])) ∧ Rep h (upd H2 T (.tup [x, y])) (.tup false [a, b]) [] (.ref T) := by
  have k : Keep h H2 (upd H2 T (.tup [x, y])) := Keep.new n
  refine ⟨k, T, [x, y], rfl, upd_same, [], [], x, [y], rfl, rfl, rep_mono k.tup ra, [], [], y, [], rfl, rfl, rep_mono k.tup rb, rfl, rfl⟩
theorem it_zip (hg : Gl X "zip") (hm : X.mg "zip" = none) (p1 : PE X e (tH h f)) (p2 : PE X e2 (tH h g))
    (hs : starEach [e, e2] X.env = (false, eval e X.env) :: starEach [e2] X.env := by rfl) (hs2 : starEach [e2] X.env = (false, eval e2 X.env) :: starEach [] X.env := by rfl) (hpl : (backTo pos (starEach [e2] X.env)).any (·.1) = false := by rfl) :
    PI X (.Tuple elts kk tpos) (.Call (.Name "zip" p) [e, e2] [] pos) (tI h (wZip f g)) := ⟨fun pins s σ H R I w => (pi_Z hg hm (pa_cons p1 (pa_cons p2 pa_nil hs2) hs) hs hpl).run pins s σ H R I (by
  obtain ⟨G, ρ, Fs, Rr, E, w, c⟩ := w
  refine ⟨G, ρ, Fs, _, E, w, fun d wd v H1 F k1 q np => ?_⟩
  refine ⟨G, ρ, Fs, _, E.after k1, wd, fun d2 wd2 v2 H2 F2 k2 q2 np2 => ?_⟩
  have q := q.keep k2 fun a ha => (np a ha).1
  split at wd2
  · rename_i ds es ed ee
    obtain ⟨w1, w2, w3⟩ := wd2
    obtain ⟨xs, sk, r, hold⟩ := seq_skv (K := X.K) q ed w1
    obtain ⟨ys, sk2, r2, hold2⟩ := seq_skv (K := X.K) q2 ee w2
    refine ⟨v, v2, xs, ys, rfl, sk, sk2, fun k l kq lq ek el => c _ w3 _ H2 (F ++ F2) (k1.trans k2) (fun a ha => ?_) ⟨fun H3 st i d' ei => ?_, fun H3 st => ?_⟩⟩
    · rcases List.mem_append.mp ha with z | z
      · exact ⟨(np a z).1, Rep.there _ _ _ q a z, (np a z).2⟩
      · exact ⟨(np2 a z).1, Rep.there _ _ _ q2 a z, (np2 a z).2⟩
    · have st1 : Sta h H2 F H3 := ⟨fun a ha => st.same a (List.mem_append_left _ ha), st.tup, st.hand⟩
      have st2 : Sta h H2 F2 H3 := ⟨fun a ha => st.same a (List.mem_append_right _ ha), st.tup, st.hand⟩
      have kq2 := hold k ek kq H3 st1
      have lq2 := hold2 l el lq H3 st2
      obtain ⟨a, b, ea, eb, ed'⟩ := zip_get _ ei
      obtain ⟨F3, x, ex, rx, sub⟩ := (repL_mono st.tup r).get ea
      obtain ⟨F4, y, ey, ry, sub2⟩ := (repL_mono st.tup r2).get eb
      have : F3 = [] := List.sublist_nil.mp sub
      subst this
      have : F4 = [] := List.sublist_nil.mp sub2
      subst this
      refine ⟨⟨xs, ys, x, y, kq2, lq2, ex, ey⟩, fun z H4 hy => ?_⟩
      obtain ⟨T, x', y', rfl, n, rfl, g1, g2⟩ := hy
      have := (g1 xs kq2).symm.trans ex
      cases this
      have := (g2 ys lq2).symm.trans ey
      cases this
      rw [← ed']
      exact rep_pair n rx ry
    · have st1 : Sta h H2 F H3 := ⟨fun a ha => st.same a (List.mem_append_left _ ha), st.tup, st.hand⟩
      have st2 : Sta h H2 F2 H3 := ⟨fun a ha => st.same a (List.mem_append_right _ ha), st.tup, st.hand⟩
      have l1 := r.length
      have l2 := r2.length
      refine ⟨xs, ys, hold k ek kq H3 st1, hold2 l el lq H3 st2, ?_, ?_, ?_⟩ <;> rw [List.length_zipWith] <;> omega
  · exact wd2.elim)⟩
theorem it_enum (hg : Gl X "enumerate") (hm : X.mg "enumerate" = none) (p1 : PE X e (tH h f)) (hs : starEach [e] X.env = [(false, eval e X.env)] := by rfl) (hs2 : starEach [e] X.env = (false, eval e X.env) :: starEach [] X.env := by rfl) :
    PI X (.Tuple elts kk tpos) (.Call (.Name "enumerate" p) [e] [] pos) (tI h (wEnum f)) := ⟨fun pins s σ H R I w => (pi_E hg hm (pa_cons p1 pa_nil hs2) hs).run pins s σ H R I (by
  obtain ⟨G, ρ, Fs, Rr, E, w, c⟩ := w
  refine ⟨G, ρ, Fs, _, E, w, fun d wd v H1 F k1 q np => ?_⟩
  split at wd
  · rename_i ds ed
    obtain ⟨xs, sk, r, hold⟩ := seq_skv (K := X.K) q ed wd.1
    refine ⟨v, xs, rfl, sk, fun k kq ek => c _ wd.2 _ H1 F k1 (fun a ha => ⟨(np a ha).1, Rep.there _ _ _ q a ha, (np a ha).2⟩) ⟨fun H2 st i d' ei => ?_, fun H2 st => ?_⟩⟩
    · have kq2 := hold k ek kq H2 st
      obtain ⟨a, b, ea, eb, ed'⟩ := zip_get _ ei
      obtain ⟨F4, y, ey, ry, sub2⟩ := (repL_mono st.tup r).get eb
      have : F4 = [] := List.sublist_nil.mp sub2
      subst this
      have hi : a = i := by
        have hlt := (List.getElem?_eq_some_iff.mp ea).1
        rw [List.getElem?_eq_getElem hlt] at ea
        have := Option.some.inj ea
        rw [List.getElem_range] at this
        exact this.symm
      subst hi
      refine ⟨⟨xs, y, kq2, ey⟩, fun z H4 hy => ?_⟩
      obtain ⟨T, y', rfl, n, rfl, g2⟩ := hy
      have := (g2 xs kq2).symm.trans ey
      cases this
      rw [← ed']
      exact rep_pair n ⟨rfl, rfl⟩ ry
    · refine ⟨xs, hold k ek kq H2 st, ?_⟩
      unfold enumD
      rw [List.length_zipWith, List.length_range, r.length, Nat.min_self]
  · exact wd.elim)⟩
theorem it_rng1 (hg : Gl X "range") (hm : X.mg "range" = none) (ha : PA X [e] (tAP h ga)) (hs : starEach [e] X.env = [(false, eval e X.env)] := by rfl) : PI X tg (.Call (.Name "range" p) [e] [] pos) (tI h (wRng1 ga)) := ⟨fun pins s σ H R I w => (pi_range1 hg hm ha hs).run pins s σ H R I (by
  obtain ⟨G, ρ, Fs, Rr, E, w, c⟩ := w
  refine ⟨G, ρ, Fs, _, E, w, fun ds wd vs H1 F k1 q np => ?_⟩
  split at wd
  · rename_i j
    obtain ⟨v, rfl, r⟩ := repL1 q
    rw [r.2]
    refine ⟨j, rfl, wd.1, wd.2.1, c _ wd.2.2 _ H1 [] k1 (fun a ha => (nomatch ha)) ⟨fun H2 st i d' ei => ?_, fun H2 st => ?_⟩⟩
    · unfold rngD at ei
      rw [List.getElem?_map] at ei
      obtain ⟨i', e1, e2⟩ := Option.map_eq_some_iff.mp ei
      obtain ⟨hlt, e3⟩ := List.getElem?_eq_some_iff.mp e1
      rw [List.getElem_range] at e3
      rw [List.length_range] at hlt
      subst e3
      exact ⟨hlt, fun x H3 hy => ⟨by rw [hy.1]; exact Keep.refl _, by rw [← e2]; exact ⟨rfl, hy.2⟩⟩⟩
    · show j.toNat ≤ _
      unfold rngD
      rw [List.length_map, List.length_range]; exact Nat.le_refl _
  · exact wd.elim)⟩
theorem it_rng2 (hg : Gl X "range") (hm : X.mg "range" = none) (ha : PA X [e, e2] (tAP h ga)) (hs : starEach [e, e2] X.env = [(false, eval e X.env), (false, eval e2 X.env)] := by rfl) (hs2 : starEach [e2] X.env = [(false, eval e2 X.env)] := by rfl) : PI X tg (.Call (.Name "range" p) [e, e2] [] pos) (tI h (wRng2 ga)) := ⟨fun pins s σ H R I w => (pi_range2 hg hm ha hs hs2).run pins s σ H R I (by
  obtain ⟨G, ρ, Fs, Rr, E, w, c⟩ := w
  refine ⟨G, ρ, Fs, _, E, w, fun ds wd vs H1 F k1 q np => ?_⟩
  split at wd
  · rename_i i0 j
    obtain ⟨F1, F2, x, ys, _, rfl, r, F3, F4, y, zs, _, rfl, r2, _, rfl⟩ := q
    rw [r.2, r2.2]
    refine ⟨i0, j, rfl, wd.1, c _ wd.2 _ H1 [] k1 (fun a ha => (nomatch ha)) ⟨fun H2 st i d' ei => ?_, fun H2 st => ?_⟩⟩
    · unfold rngD at ei
      rw [List.getElem?_map] at ei
      obtain ⟨i', e1, e2⟩ := Option.map_eq_some_iff.mp ei
      obtain ⟨hlt, e3⟩ := List.getElem?_eq_some_iff.mp e1
      rw [List.getElem_range] at e3
      rw [List.length_range] at hlt
      subst e3
      exact ⟨hlt, fun x H3 hy => ⟨by rw [hy.1]; exact Keep.refl _, by rw [← e2]; exact ⟨rfl, hy.2⟩⟩⟩
    · show (j - i0).toNat ≤ _
      unfold rngD
      rw [List.length_map, List.length_range]; exact Nat.le_refl _
  · exact wd.elim)⟩
end

/-! ### targets, by data -/
abbrev WG := D → Rho → (Rho → Prop) → Prop
def Agree (vs : List Nat) (σ σ' : L2.St) : Prop := σ'.length = σ.length ∧ ∀ i, i ∉ vs → σ'[i]? = σ[i]?
def tG (h : Hd) (vs : List Nat) (t : WG) : TG := fun v σ H Q => ∃ G ρ Fs d R, En h G H σ ρ Fs ∧ Rep h H d [] v ∧ t d ρ R ∧ ∀ ρ', R ρ' → ∀ σ' Fs', En h G H σ' ρ' Fs' → Agree vs σ σ' → Q σ' H
def tGs (h : Hd) (vs : List Nat) (t : List D → Rho → (Rho → Prop) → Prop) : TGs := fun xs σ H Q => ∃ G ρ Fs ds R, En h G H σ ρ Fs ∧ RepL h H ds [] xs ∧ t ds ρ R ∧ ∀ ρ', R ρ' → ∀ σ' Fs', En h G H σ' ρ' Fs' → Agree vs σ σ' → Q σ' H
def wN (i : Nat) : WG := fun d ρ R => i < ρ.length ∧ R (ρ.set i (.own d))
def wNs : List Nat → List D → Rho → (Rho → Prop) → Prop
  | [], [], ρ, R => R ρ
  | i :: is, d :: ds, ρ, R => i < ρ.length ∧ wNs is ds (ρ.set i (.own d)) R
  | _, _, _, _ => False
def wNT (is : List Nat) : WG := fun d ρ R => match d with
  | .tup _ ds => wNs is ds ρ R
  | _ => False
section
variable {X : Cx} {h : Hd} {pos : Pos}
theorem tg_name {i : Nat} {x : Str} (hN : X.N.Nodup) (hi : X.N[i]? = some x) (hx : Loc X.env.scope x) (hf : X.fn x = true ∨ X.env.scope.names.lookup x = some .local := by first | exact .inl rfl | exact .inr rfl | assumption) : PG X (.Name x pos) (tG h [i] (wN i)) := ⟨fun pins s σ H v u Q I r w => (pg_name hN hi hx hf).run pins s σ H v u Q I r (by
  obtain ⟨G, ρ, Fs, d, R, E, q, ⟨hi, w⟩, c⟩ := w
  refine c _ w _ _ (E.store q Apart.nil hi) ⟨by rw [List.length_set], fun j hj => ?_⟩
  rw [List.getElem?_set_ne (fun z => hj (by rw [z]; simp))])⟩
theorem tgs_nil : PGs X [] (tGs h [] (wNs [])) := ⟨fun pins s σ H xs us Q I r w => pgs_nil.run pins s σ H xs us Q I r (by
  obtain ⟨G, ρ, Fs, ds, R, E, q, w, c⟩ := w
  cases ds with
  | nil => exact ⟨q.2, c _ w _ _ E ⟨rfl, fun _ _ => rfl⟩⟩
  | cons d ds => exact w.elim)⟩
theorem tgs_cons {i : Nat} {is : List Nat} {e : Expr} {es : List Expr} (h1 : PG X e (tG h [i] (wN i))) (h2 : PGs X es (tGs h is (wNs is)))
    (hs : (assignEach (e :: es) X.env).map (·.2) = assign e X.env :: (assignEach es X.env).map (·.2) := by rfl) : PGs X (e :: es) (tGs h (i :: is) (wNs (i :: is))) := ⟨fun pins s σ H xs us Q I r w => (pgs_cons h1 h2 hs).run pins s σ H xs us Q I r (by
  obtain ⟨G, ρ, Fs, ds, R, E, q, w, c⟩ := w
  cases ds with
  | nil => exact w.elim
  | cons d ds =>
    obtain ⟨hi, w⟩ := w
    obtain ⟨F1, F2, x, ys, eF, ex, r1, r2⟩ := q
    obtain ⟨f1, f2⟩ := List.append_eq_nil_iff.mp eF.symm
    subst f1 f2
    refine ⟨x, ys, ex, G, ρ, Fs, d, fun ρ' => ρ' = ρ.set i (.own d), E, r1, ⟨hi, rfl⟩, fun ρ' eρ σ' Fs' E' out => ?_⟩
    subst eρ
    refine ⟨G, _, Fs', ds, R, E', r2, w, fun ρ2 r2 σ2 Fs2 E2 out2 => c ρ2 r2 σ2 Fs2 E2 ⟨out2.1.trans out.1, fun j hj => ?_⟩⟩
    rw [List.mem_cons, not_or] at hj
    rw [out2.2 j hj.2, out.2 j (by simpa using hj.1)])⟩
theorem tg_tup {es : List Expr} {k : Nat} {is : List Nat} {n : Nat} (hc : X.calm = true) (p : PGs X es (tGs h is (wNs is))) (hn : (assignEach es X.env).length = n := by rfl) (hl : is.length = n := by rfl) (hst : (assignEach es X.env).findIdx? (·.1) = none := by rfl) : PG X (.Tuple es k pos) (tG h is (wNT is)) := ⟨fun pins s σ H v u Q I r w => (pg_tup hc p hn hst).run pins s σ H v u Q I r (by
  obtain ⟨G, ρ, Fs, d, R, E, q, w, c⟩ := w
  unfold wNT at w
  split at w
  · rename_i ds
    obtain ⟨a, xs, rfl, e3, rl⟩ := q
    have len : ∀ {is : List Nat} {ds : List D} {ρ : Rho} {R : Rho → Prop}, wNs is ds ρ R → ds.length = is.length := by
      intro is
      induction is with
      | nil => intro ds ρ R w; cases ds with
        | nil => rfl
        | cons d ds => exact w.elim
      | cons i is ih => intro ds ρ R w; cases ds with
        | nil => exact w.elim
        | cons d ds => rw [List.length_cons, List.length_cons, ih w.2]
    exact ⟨a, xs, rfl, e3.sq, by rw [rl.length, len w, hl], G, ρ, Fs, ds, R, E, rl, w, c⟩
  · exact w.elim)⟩
end
end PL

namespace PL
open PySem PySem.Spec PyProof.Rows L2

/-! ### within an expression nothing is written: all slots are lent -/
def Sl.toBor : Sl → Sl
  | .own d => .bor d
  | .lck _ d => .bor d
  | s => s
def borAll (ρ : Rho) : Rho := ρ.map Sl.toBor
def wipeR (ρ : Rho) : List Nat → Rho
  | [] => ρ
  | v :: vs => (wipeR ρ vs).set v .no
section
variable {h : Hd} {G : Gd} {H H' : Hp} {σ : L2.St} {ρ : Rho} {Fs : Nat → List Addr}
theorem En.borAll (E : En h G H σ ρ Fs) : En h ⟨H, fun _ => none⟩ H σ (PL.borAll ρ) (fun _ => []) where
  keep := Keep.refl H
  hold := fun b x e => nomatch e
  hand := E.hand
  gp := by obtain ⟨⟨x, e⟩, _⟩ := E.hand.there; exact fun z => by have z : H h.p = none := z; rw [e] at z; cases z
  gc := by obtain ⟨_, x, e⟩ := E.hand.there; exact fun z => by have z : H h.c = none := z; rw [e] at z; cases z
  qp := rfl
  len := by unfold PL.borAll; rw [List.length_map]; exact E.len
  out := fun _ _ => rfl
  dis := fun _ _ _ z => nomatch z
  nod := fun _ => List.nodup_nil
  own := fun _ _ z => nomatch z
  rep := fun i s e => by
    unfold PL.borAll at e
    rw [List.getElem?_map] at e
    obtain ⟨s', e1, e2⟩ := Option.map_eq_some_iff.mp e
    obtain ⟨x, ex, r⟩ := E.rep i s' e1
    refine ⟨x, ex, ?_⟩
    subst e2
    have al : ∀ {d : D} {F1 : List Addr} {v : V}, Rep h H d F1 v → (∀ a ∈ F1, a ≠ h.p) → ∀ a ∈ F1, H a ≠ none ∧ a ≠ h.p := fun {d F1 v} r np a ha => by
      obtain ⟨y, ey⟩ := Rep.there _ _ _ r a ha
      exact ⟨fun z => (by rw [ey] at z; cases z), np a ha⟩
    cases s' with
    | no => exact rfl
    | own d => obtain ⟨v, ev, r, _⟩ := r; exact ⟨rfl, v, Fs i, ev, r, al r fun a ha => E.np ha⟩
    | bor d => (obtain ⟨_, v, F1, ev, r, q⟩ := r; exact ⟨rfl, v, F1, ev, r, al r (fun a ha => (q a ha).2)⟩)
    | lck v d => (obtain ⟨_, ev, F1, r, q⟩ := r; exact ⟨rfl, v, F1, ev, r, al r (fun a ha => (q a ha).2)⟩)
theorem setF_nil {i : Nat} : setF (fun _ => []) i [] = fun _ => [] := by
  funext j
  unfold setF
  split <;> rfl
theorem En.wiped (E : En h G H σ ρ (fun _ => [])) : ∀ vs : List Nat, En h G H (wipe σ vs) (wipeR ρ vs) (fun _ => [])
  | [] => E
  | v :: vs => by
    have E1 := En.wiped E vs
    unfold wipe wipeR
    by_cases hv : v < (wipeR ρ vs).length
    · have := E1.forget (i := v) (x := none) hv
      rw [setF_nil] at this
      exact this
    · rw [List.set_eq_of_length_le (by rw [E1.len]; omega), List.set_eq_of_length_le (by omega)]
      exact E1
theorem wipe_in {σ : L2.St} {i : Nat} : ∀ {vs : List Nat}, i ∈ vs → i < σ.length → (wipe σ vs)[i]? = some none
  | [], m, _ => nomatch m
  | v :: vs, m, hi => by
    unfold wipe
    by_cases e : v = i
    · subst e
      exact List.getElem?_set_self (by rw [wipe_length]; exact hi)
    · rw [List.getElem?_set_ne e]
      exact wipe_in (by rcases List.mem_cons.mp m with z | z; exact absurd z.symm e; exact z) hi
theorem wipe_ext {σ σ2 : L2.St} {vs is : List Nat} (hl : σ2.length = σ.length) (sub : ∀ i ∈ is, i ∈ vs) (e : ∀ i, i ∉ is → σ2[i]? = (wipe σ vs)[i]?) : wipe σ2 vs = wipe σ vs := by
  apply List.ext_getElem?
  intro i
  by_cases m : i ∈ vs
  · by_cases hi : i < σ.length
    · rw [wipe_in m hi, wipe_in m (by rw [hl]; exact hi)]
    · rw [List.getElem?_eq_none (by rw [wipe_length]; omega), List.getElem?_eq_none (by rw [wipe_length]; omega)]
  · rw [wipe_out m, e i fun z => m (sub i z)]
end

/-! ### list comprehensions -/
def wYes : WT := fun _ R => R true
def lcW (t : WG) (ct : WT) (el : WE) (ρ : Rho) : List D → List D → (D → Prop) → Prop
  | [], acc, R => R (.lst acc)
  | x :: xs, acc, R => t x ρ fun ρ1 => ct ρ1 fun b => if b = true then el ρ1 fun y => acc.length < sizeLine ∧ lcW t ct el ρ xs (acc ++ [y]) R else lcW t ct el ρ xs acc R
def wLc (vs : List Nat) (it : WI) (t : WG) (ct : WT) (el : WE) : WE := fun ρ R => it (borAll ρ) fun items => lcW t ct el (wipeR (borAll ρ) vs) items [] R
section
variable {X : Cx} {h : Hd}
theorem ptsnil : PTs X [] (tT h wYes) := by
  refine ⟨fun pins s σ H Q I w => pts_nil.run pins s σ H Q I ?_⟩
  obtain ⟨G, ρ, Fs, R, E, w, c⟩ := w
  exact c _ w H (Keep.refl H)
theorem ptsone {c : Expr} {t : WT} (p : PT X c (tT h t)) : PTs X [c] (tT h t) := pts_one p
theorem upd_tup {H : Hp} {D : Addr} {o o' : HO} (e : H D = some o') (m1 : ∀ ys, o' ≠ .tup ys) (m2 : ∀ u ys, o' ≠ .frz u ys) {z : Bool} {b : Addr} {xs : List V} (t : TupAt H z b xs) : TupAt (upd H D o) z b xs := by
  refine TupAt.of (fun u r hu => ?_) z t
  rw [upd_ne (fun q => ?_)]
  · exact r
  · subst q
    rw [e] at r
    cases r
    rcases hu with ⟨ys, hu⟩ | ⟨u', ys, hu⟩
    · exact m1 _ hu
    · exact m2 _ _ hu
theorem lc_core2 {g : WG} {ct : WT} {el : WE} {vs is : List Nat} (hsub : ∀ i ∈ is, i ∈ vs) {G : Gd} {ρ : Rho} {Fs : Nat → List Addr} {R : D → Prop} {σ : L2.St} {H : Hp} {Q : VK} (E : En h G H σ ρ Fs) (c : PostF h H R Q)
    {items : List D} (wi : lcW g ct el (wipeR (PL.borAll ρ) vs) items [] R) {J : It} {H1 : Hp} {F : List Addr} (k1 : Keep h H H1) (hF : ∀ a ∈ F, a ≠ h.p) (wk : WkF h H1 F J items) :
    tLc (fun _ _ K => K J H1) (tG h is g) (tT h ct) (tF h el) vs σ H1 Q := by
  intro D nD
  have ho := E.hand
  have ho1 := k1.hand ho
  have hDp : D ≠ h.p := np_of ho1 nD
  have W : Walk J items.length (fun H2 => Sta h H1 F H2) (fun i H2 x H3 => ∃ d, items[i]? = some d ∧ Keep h H2 H3 ∧ Rep h H3 d [] x) :=
    ⟨fun i H2 hi st => (wk.go H2 st i _ (List.getElem?_eq_getElem hi)).1, fun H2 st => wk.stop H2 st, fun i H2 x H3 hi st y => ⟨_, List.getElem?_eq_getElem hi, (wk.go H2 st i _ (List.getElem?_eq_getElem hi)).2 x H3 y⟩⟩
  have hgp : H1 h.p ≠ none := by obtain ⟨⟨x, e⟩, _⟩ := ho1.there; exact fun z => by rw [e] at z; cases z
  have hgc : H1 h.c ≠ none := by obtain ⟨_, x, e⟩ := ho1.there; exact fun z => by rw [e] at z; cases z
  refine lc_it W (fun i H2 => ∃ acc accV Fa, Keep h H1 H2 ∧ H2 D = some (.lst accV) ∧ RepL h H2 acc Fa accV ∧ (∀ a ∈ Fa, H1 a = none ∧ a ≠ D ∧ NFrz H2 a) ∧ Fa.Nodup ∧ lcW g ct el (wipeR (PL.borAll ρ) vs) (items.drop i) acc R)
    ⟨[], [], [], Keep.new nD, upd_same, ⟨rfl, rfl⟩, fun a ha => (nomatch ha), List.nodup_nil, by rw [List.drop_zero]; exact wi⟩ (fun i H2 _ p => ?_) (fun i x H2 H3 hi p y => ?_) (fun H2 p => ?_)
  · obtain ⟨acc, accV, Fa, k, _⟩ := p
    exact Sta.of_keep ho1 k fun a ha => hF a ha
  · obtain ⟨acc, accV, Fa, k, eD, ra, fa, na, wl⟩ := p
    obtain ⟨d, ed, k3, rx⟩ := y
    have hd : items.drop i = d :: items.drop (i + 1) := by
      obtain ⟨hlt, e⟩ := List.getElem?_eq_some_iff.mp ed
      rw [← e]
      exact List.drop_eq_getElem_cons hlt
    rw [hd] at wl
    have k13 := k.trans k3
    have E3 := ((E.after (k1.trans k13)).borAll).wiped vs
    have np3 : ∀ {a : Addr}, a ∈ Fa → a ≠ h.p := fun ha => np_of ho1 (fa _ ha).1
    refine ⟨_, _, _, d, _, E3, rx, wl, fun ρ1 w1 σ1 Fs1 E4 ag => ⟨wipe_ext (by rw [ag.1, wipe_length]) hsub ag.2, ?_⟩⟩
    refine ⟨_, ρ1, Fs1, _, E4, w1, fun b wb H4 k4 => ?_⟩
    cases b with
    | false =>
      rw [if_neg Bool.false_ne_true] at wb ⊢
      have k34 := k3.trans k4
      exact ⟨acc, accV, Fa, k.trans k34, k34.same D _ eD hDp, ra.keep k34 (fun a ha => np3 ha), fun a ha => ⟨(fa a ha).1, (fa a ha).2.1, nf_keep k34 (np3 ha) (RepL.there _ _ _ ra a ha) (fa a ha).2.2⟩, na, wb⟩
    | true =>
      rw [if_pos rfl] at wb ⊢
      refine ⟨_, ρ1, Fs1, _, E4.after k4, wb, fun y wy v H5 Fy k5 qy fy ny => ?_⟩
      have k345 := k3.trans (k4.trans k5)
      have eD5 := k345.same D _ eD hDp
      have ra5 := ra.keep k345 (fun a ha => np3 ha)
      have kD : Keep h H1 (upd H5 D (.lst (accV ++ [v]))) := Keep.write (k.trans k345) nD hgp hgc eD5 (fun _ z => (nomatch z)) (fun _ _ z => (nomatch z))
      have eD4 : H4 D = some (.lst accV) := (k3.trans k4).same D _ eD hDp
      have yD : ∀ a ∈ Fy, a ≠ D := fun a ha z => by subst z; rw [(fy a ha).1] at eD4; cases eD4
      have tD : ∀ z b xs, TupAt H5 z b xs → TupAt (upd H5 D (.lst (accV ++ [v]))) z b xs := fun z b xs t => upd_tup eD5 (fun _ z => (nomatch z)) (fun _ _ z => (nomatch z)) t
      have nfD : ∀ {a : Addr}, a ≠ D → NFrz H5 a → NFrz (upd H5 D (.lst (accV ++ [v]))) a := fun {a} ne n o u z => by rw [upd_ne ne] at z; exact n o u z
      refine ⟨accV, eD5, by rw [ra.length]; exact wy.1, acc ++ [y], accV ++ [v], Fa ++ Fy, kD, upd_same, ?_, fun a ha => ?_, ?_, wy.2⟩
      · exact RepL.app (RepL.mono tD acc Fa accV (fun a ha x e => by rw [upd_ne (fa a ha).2.1]; exact e) ra5) (RepL.one (Rep.mono tD y Fy v (fun a ha x e => by rw [upd_ne (yD a ha)]; exact e) qy))
      · rcases List.mem_append.mp ha with z | z
        · exact ⟨(fa a z).1, (fa a z).2.1, nfD (fa a z).2.1 (nf_keep k345 (np3 z) (RepL.there _ _ _ ra a z) (fa a z).2.2)⟩
        · exact ⟨fresh_back (k.trans (k3.trans k4)) ho1 (fy a z).1, yD a z, nfD (yD a z) (fy a z).2⟩
      · refine List.nodup_append.mpr ⟨na, ny, fun a ha b hb z => ?_⟩
        subst z
        obtain ⟨x, ex⟩ := RepL.there _ _ _ ra a ha
        have := (k3.trans k4).same a x ex (np3 ha)
        rw [(fy a hb).1] at this; cases this
  · obtain ⟨acc, accV, Fa, k, eD, ra, fa, na, wl⟩ := p
    rw [List.drop_length] at wl
    refine c _ wl _ H2 (D :: Fa) (k1.trans k) ⟨D, accV, Fa, rfl, rfl, eD, ra⟩ (fun a ha => ?_) (List.nodup_cons.mpr ⟨fun z => (fa D z).2.1 rfl, na⟩)
    rcases List.mem_cons.mp ha with z | z
    · subst z; exact ⟨fresh_back k1 ho nD, fun o u z => by rw [eD] at z; cases z⟩
    · exact ⟨fresh_back k1 ho (fa a z).1, (fa a z).2.2⟩
theorem lc_sound {it : WI} {g : WG} {ct : WT} {el : WE} {vs is : List Nat} (hsub : ∀ i ∈ is, i ∈ vs) {σ : L2.St} {H : Hp} {Q : VK} (w : tF h (wLc vs it g ct el) σ H Q) :
    tLc (tI h it) (tG h is g) (tT h ct) (tF h el) vs σ H Q := by
  obtain ⟨G, ρ, Fs, R, E, w, c⟩ := w
  exact ⟨_, _, _, _, E.borAll, w, fun items wi J H1 F k1 hF wk => lc_core2 hsub E c wi k1 (fun a ha => (hF a ha).1) wk⟩
theorem plc {elt tg iter : Expr} {ifs : List Expr} {scope : Scope} {own : List (Str × Nat)} {pos : Pos} {it : WI} {g : WG} {ct : WT} {el : WE} {is : List Nat} (hc : X.calm = true) (hN : X.N.Nodup) (hi : PI X tg iter (tI h it)) (ok : BlkOk X.N X.env.scope scope own)
    (hg : ∀ (s : Shared) (H : Hp) (C : Addr) (cl : List (Str × Addr)) (fp : List Addr), PG (X.blk s H scope (compEnvC scope cl C X.env) fp) tg (tG h is g)) (ht : ∀ (s : Shared) (H : Hp) (C : Addr) (cl : List (Str × Addr)) (fp : List Addr), PTs (X.blk s H scope (compEnvC scope cl C X.env) fp) ifs (tT h ct))
    (he : ∀ (s : Shared) (H : Hp) (C : Addr) (cl : List (Str × Addr)) (fp : List Addr), PE (X.blk s H scope (compEnvC scope cl C X.env) fp) elt (tF h el)) (hsub : ∀ i ∈ is, i ∈ own.map (·.2) := by decide) (hs : ∀ x, foldedSetIterable iter X.env x = pure x := by intro _; rfl) :
    PE X (.ListComp elt [⟨tg, iter, ifs, 0⟩] scope pos) (tF h (wLc (own.map (·.2)) it g ct el)) := pe_imp (pe_lc hc hN hi ok hg ht he hs) fun _ _ _ w => lc_sound hsub w
end

/-! ### dict comprehensions -/
def dcW (t : WG) (ct : WT) (kl vl : WE) (ρ : Rho) : List D → List Key → List D → (D → Prop) → Prop
  | [], ks, ds, R => R (.dic ks ds)
  | x :: xs, ks, ds, R => t x ρ fun ρ1 => ct ρ1 fun b => if b = true then kl ρ1 fun y => vl ρ1 fun z => match y.key with
    | some k => ks.length < sizeLine ∧ dcW t ct kl vl ρ xs (putD ks ds k z).1 (putD ks ds k z).2 R
    | none => False
    else dcW t ct kl vl ρ xs ks ds R
def wDc (vs : List Nat) (it : WI) (t : WG) (ct : WT) (kl vl : WE) : WE := fun ρ R => it (borAll ρ) fun items => dcW t ct kl vl (wipeR (borAll ρ) vs) items [] [] R
section
variable {X : Cx} {h : Hd}
theorem dc_core2 {g : WG} {ct : WT} {kl vl : WE} {vs is : List Nat} (hsub : ∀ i ∈ is, i ∈ vs) {G : Gd} {ρ : Rho} {Fs : Nat → List Addr} {R : D → Prop} {σ : L2.St} {H : Hp} {Q : VK} (E : En h G H σ ρ Fs) (c : PostF h H R Q)
    {items : List D} (wi : dcW g ct kl vl (wipeR (PL.borAll ρ) vs) items [] [] R) {J : It} {H1 : Hp} {F : List Addr} (k1 : Keep h H H1) (hF : ∀ a ∈ F, a ≠ h.p) (wk : WkF h H1 F J items) :
    tDc (fun _ _ K => K J H1) (tG h is g) (tT h ct) (tP h kl) (tF h vl) vs σ H1 Q := by
  intro D nD
  have ho := E.hand
  have ho1 := k1.hand ho
  have hDp : D ≠ h.p := np_of ho1 nD
  have hgp : H1 h.p ≠ none := by obtain ⟨⟨x, e⟩, _⟩ := ho1.there; exact fun z => by rw [e] at z; cases z
  have hgc : H1 h.c ≠ none := by obtain ⟨_, x, e⟩ := ho1.there; exact fun z => by rw [e] at z; cases z
  refine ⟨fun i m H2 => m = items.length - i ∧ i ≤ items.length ∧ ∃ kvs ds Fa, Keep h H1 H2 ∧ H2 D = some (.dK kvs) ∧ (kvs.map (·.1)).Nodup ∧ RepL h H2 ds Fa (kvs.map (·.2)) ∧ (∀ a ∈ Fa, H1 a = none ∧ a ≠ D ∧ NFrz H2 a) ∧ Fa.Nodup ∧ dcW g ct kl vl (wipeR (PL.borAll ρ) vs) (items.drop i) (kvs.map (·.1)) ds R,
    ⟨items.length, by simp, Nat.zero_le _, [], [], [], Keep.new nD, upd_same, List.nodup_nil, ⟨rfl, rfl⟩, fun a ha => (nomatch ha), List.nodup_nil, by rw [List.drop_zero]; exact wi⟩, ?_⟩
  rintro i m H2 ⟨rfl, hi, kvs, ds, Fa, k, eD, nd, ra, fa, na, wl⟩
  have st : Sta h H1 F H2 := Sta.of_keep ho1 k fun a ha => hF a ha
  have np3 : ∀ {a : Addr}, a ∈ Fa → a ≠ h.p := fun ha => np_of ho1 (fa _ ha).1
  by_cases hlt : i < items.length
  · have go := wk.go H2 st i _ (List.getElem?_eq_getElem hlt)
    refine .inr ⟨go.1, fun H2 => ∃ kvs ds Fa, Keep h H1 H2 ∧ H2 D = some (.dK kvs) ∧ (kvs.map (·.1)).Nodup ∧ RepL h H2 ds Fa (kvs.map (·.2)) ∧ (∀ a ∈ Fa, H1 a = none ∧ a ≠ D ∧ NFrz H2 a) ∧ Fa.Nodup ∧ dcW g ct kl vl (wipeR (PL.borAll ρ) vs) (items.drop (i + 1)) (kvs.map (·.1)) ds R,
      fun H' p => ⟨items.length - (i + 1), by omega, rfl, hlt, p⟩, fun x H3 y => ?_⟩
    obtain ⟨k3, rx⟩ := go.2 x H3 y
    rw [List.drop_eq_getElem_cons hlt] at wl
    have E3 := ((E.after (k1.trans (k.trans k3))).borAll).wiped vs
    refine ⟨_, _, _, _, _, E3, rx, wl, fun ρ1 w1 σ1 Fs1 E4 ag => ⟨wipe_ext (by rw [ag.1, wipe_length]) hsub ag.2, ?_⟩⟩
    refine ⟨_, ρ1, Fs1, _, E4, w1, fun b wb H4 k4 => ?_⟩
    cases b with
    | false =>
      rw [if_neg Bool.false_ne_true] at wb ⊢
      have k34 := k3.trans k4
      exact ⟨kvs, ds, Fa, k.trans k34, k34.same D _ eD hDp, nd, ra.keep k34 (fun a ha => np3 ha), fun a ha => ⟨(fa a ha).1, (fa a ha).2.1, nf_keep k34 (np3 ha) (RepL.there _ _ _ ra a ha) (fa a ha).2.2⟩, na, wb⟩
    | true =>
      rw [if_pos rfl] at wb ⊢
      refine ⟨_, ρ1, Fs1, _, E4.after k4, wb, fun y wy v H5 Fk k5 qk npk => ?_⟩
      refine ⟨_, ρ1, Fs1, _, (E4.after k4).after k5, wy, fun z wz v2 H6 Fy k6 qy fy ny => ?_⟩
      split at wz
      rotate_left
      · exact wz.elim
      rename_i kk ek
      have qk6 := qk.keep k6 npk
      have k36 := k3.trans (k4.trans (k5.trans k6))
      have eD6 := k36.same D _ eD hDp
      have ra6 := ra.keep k36 (fun a ha => np3 ha)
      have kD : Keep h H1 (upd H6 D (.dK (putK kvs kk v2))) := Keep.write (k.trans k36) nD hgp hgc eD6 (fun _ z => (nomatch z)) (fun _ _ z => (nomatch z))
      have k35 := k3.trans (k4.trans k5)
      have eD5 : H5 D = some (.dK kvs) := k35.same D _ eD hDp
      have yD : ∀ a ∈ Fy, a ≠ D := fun a ha z => by subst z; rw [(fy a ha).1] at eD5; cases eD5
      have tD : ∀ z b xs, TupAt H6 z b xs → TupAt (upd H6 D (.dK (putK kvs kk v2))) z b xs := fun z b xs t => upd_tup eD6 (fun _ z => (nomatch z)) (fun _ _ z => (nomatch z)) t
      have nfD : ∀ {a : Addr}, a ≠ D → NFrz H6 a → NFrz (upd H6 D (.dK (putK kvs kk v2))) a := fun {a} ne n o u z => by rw [upd_ne ne] at z; exact n o u z
      have raD := RepL.mono tD ds Fa _ (fun a ha x e => by rw [upd_ne (fa a ha).2.1]; exact e) ra6
      have qyD := Rep.mono tD z Fy v2 (fun a ha x e => by rw [upd_ne (yD a ha)]; exact e) qy
      obtain ⟨i1, F3, i2, i3, i4⟩ := put_rep (k := kk) nd raD qyD
      have ll : (kvs.map (·.1)).length = ds.length := by rw [← ra.length, List.length_map, List.length_map]
      refine ⟨kvs, kk, key_v ek qk6, eD6, by have := wz.1; rw [List.length_map] at this; exact this, putK kvs kk v2, _, F3, kD, upd_same, by rw [i1]; exact putD_nodup ll nd, i2, fun a ha => ?_, i4 na ny fun a ha hb => ?_, by rw [i1]; exact wz.2⟩
      · rcases i3 a ha with z | z
        · exact ⟨(fa a z).1, (fa a z).2.1, nfD (fa a z).2.1 (nf_keep k36 (np3 z) (RepL.there _ _ _ ra a z) (fa a z).2.2)⟩
        · exact ⟨fresh_back (k.trans k35) ho1 (fy a z).1, yD a z, nfD (yD a z) (fy a z).2⟩
      · obtain ⟨x, ex⟩ := RepL.there _ _ _ ra a ha
        have := k35.same a x ex (np3 ha)
        rw [(fy a hb).1] at this; cases this
  · have e : i = items.length := by omega
    subst e
    rw [List.drop_length] at wl
    refine .inl ⟨wk.stop H2 st, ?_⟩
    refine c _ wl _ H2 (D :: Fa) (k1.trans k) ⟨D, kvs, Fa, rfl, rfl, .inl eD, ⟨rfl, nd⟩, ra⟩ (fun a ha => ?_) (List.nodup_cons.mpr ⟨fun z => (fa D z).2.1 rfl, na⟩)
    rcases List.mem_cons.mp ha with z | z
    · subst z; exact ⟨fresh_back k1 ho nD, fun o u z => by rw [eD] at z; cases z⟩
    · exact ⟨fresh_back k1 ho (fa a z).1, (fa a z).2.2⟩
theorem dc_sound {it : WI} {g : WG} {ct : WT} {kl vl : WE} {vs is : List Nat} (hsub : ∀ i ∈ is, i ∈ vs) {σ : L2.St} {H : Hp} {Q : VK} (w : tF h (wDc vs it g ct kl vl) σ H Q) :
    tDc (tI h it) (tG h is g) (tT h ct) (tP h kl) (tF h vl) vs σ H Q := by
  obtain ⟨G, ρ, Fs, R, E, w, c⟩ := w
  exact ⟨_, _, _, _, E.borAll, w, fun items wi J H1 F k1 hF wk => dc_core2 hsub E c wi k1 (fun a ha => (hF a ha).1) wk⟩
theorem pdc {kx vx tg iter : Expr} {ifs : List Expr} {scope : Scope} {own : List (Str × Nat)} {pos : Pos} {it : WI} {g : WG} {ct : WT} {kl vl : WE} {is : List Nat} (hc : X.calm = true) (hN : X.N.Nodup) (hi : PI X tg iter (tI h it)) (ok : BlkOk X.N X.env.scope scope own)
    (hg : ∀ (s : Shared) (H : Hp) (C : Addr) (cl : List (Str × Addr)) (fp : List Addr), PG (X.blk s H scope (compEnvC scope cl C X.env) fp) tg (tG h is g)) (ht : ∀ (s : Shared) (H : Hp) (C : Addr) (cl : List (Str × Addr)) (fp : List Addr), PTs (X.blk s H scope (compEnvC scope cl C X.env) fp) ifs (tT h ct))
    (hk : ∀ (s : Shared) (H : Hp) (C : Addr) (cl : List (Str × Addr)) (fp : List Addr), PE (X.blk s H scope (compEnvC scope cl C X.env) fp) kx (tP h kl)) (he : ∀ (s : Shared) (H : Hp) (C : Addr) (cl : List (Str × Addr)) (fp : List Addr), PE (X.blk s H scope (compEnvC scope cl C X.env) fp) vx (tF h vl)) (hsub : ∀ i ∈ is, i ∈ own.map (·.2) := by decide) (hs : ∀ x, foldedSetIterable iter X.env x = pure x := by intro _; rfl) :
    PE X (.DictComp kx vx [⟨tg, iter, ifs, 0⟩] scope pos) (tF h (wDc (own.map (·.2)) it g ct kl vl)) := pe_imp (pe_dc hc hN hi ok hg ht hk he hs) fun _ _ _ w => dc_sound hsub w
end
end PL

namespace PL
open PySem PySem.Spec PyProof.Rows L2

/-! ### statements, by data -/
def wSeqS (f g : WS) : WS := fun W ρ => f { W with nx := g W } ρ
def wNext : WS := fun W ρ => W.nx ρ
def wBreak : WS := fun W ρ => W.bk ρ
def wCont : WS := fun W ρ => W.ct ρ
def wNever : WS := fun _ _ => False
def wSet (i : Nat) (f : WE) : WS := fun W ρ => f ρ fun d => i < ρ.length ∧ W.nx (ρ.set i (.own d))
def wDrop (f : WE) : WS := fun W ρ => f ρ fun _ => W.nx ρ
def wRet (f : WE) : WS := fun W ρ => f ρ W.rt
def wRetV (i : Nat) : WS := fun W ρ => match ρ[i]? with
  | some (.own d) => W.rt d
  | some (.bor d) => d.imm = true ∧ W.rt d
  | some (.lck _ d) => d.imm = true ∧ W.rt d
  | _ => False
def wRetN : WS := fun W _ => W.rt (.v .non)
def wIfS (c : WT) (f g : WS) : WS := fun W ρ => c ρ fun b => if b = true then f W ρ else g W ρ
def wPar (i j : Nat) (g : WA) : WS := fun W ρ => g ρ fun ds => match ds with
  | [a, b] => i < ρ.length ∧ j < ρ.length ∧ W.nx ((ρ.set i (.own a)).set j (.own b))
  | _ => False
def wPar3 (i j l : Nat) (g : WA) : WS := fun W ρ => g ρ fun ds => match ds with
  | [a, b, c] => i < ρ.length ∧ j < ρ.length ∧ l < ρ.length ∧ W.nx (((ρ.set i (.own a)).set j (.own b)).set l (.own c))
  | _ => False
/-- a target that takes a value of no objects of its own -/
def wAsg (f : WE) (g : WG) : WS := fun W ρ => f ρ fun d => d.imm = true ∧ g d ρ W.nx
def wMove (i j : Nat) : WS := fun W ρ => match ρ[j]? with
  | some (.own d) => i ≠ j ∧ i < ρ.length ∧ W.nx ((ρ.set i (.own d)).set j .no)
  | _ => False
def wWhile (c : WT) (f : WS) : WS := fun W ρ => ∃ I : Nat → Rho → Prop, (∃ m, I m ρ) ∧ ∀ m ρ', I m ρ' → c ρ' fun b =>
  if b = true then f { W with nx := fun ρ2 => ∃ m', m' < m ∧ I m' ρ2, ct := fun ρ2 => ∃ m', m' < m ∧ I m' ρ2, bk := W.nx } ρ' else W.nx ρ'
def forW (g : WG) (f : WS) (W : WEnds) (L : List (Option (V × D))) : List D → Rho → Prop
  | [], ρ => lcks ρ = L ∧ W.nx ρ
  | x :: xs, ρ => g x ρ fun ρ1 => f { W with nx := forW g f W L xs, ct := forW g f W L xs, bk := fun ρ2 => lcks ρ2 = L ∧ W.nx ρ2 } ρ1
def wFor (it : WI) (g : WG) (f : WS) : WS := fun W ρ => it ρ fun items => forW g f W (lcks ρ) items ρ
/-- the statement runs while the i-th slot is locked -/
def wLock (i : Nat) (f : WS) : WS := fun W ρ => match ρ[i]? with
  | some (.own d) => ∀ v, f { nx := fun ρ2 => lcks ρ2 = lcks (ρ.set i (.lck v d)) ∧ W.nx (ρ2.set i (.own d)), rt := W.rt, bk := fun ρ2 => lcks ρ2 = lcks (ρ.set i (.lck v d)) ∧ W.bk (ρ2.set i (.own d)), ct := fun ρ2 => lcks ρ2 = lcks (ρ.set i (.lck v d)) ∧ W.ct (ρ2.set i (.own d)) } (ρ.set i (.lck v d))
  | _ => False
section
variable {h : Hd} {G : Gd} {H H' : Hp} {σ : L2.St} {ρ : Rho} {Fs : Nat → List Addr}
theorem En.fresh_g (E : En h G H σ ρ Fs) {a : Addr} (n : H a = none) : G.g a = none := by
  cases e : G.g a with
  | none => rfl
  | some x =>
    have z : a ≠ h.p := np_of E.hand n
    rw [E.keep.same a x e z] at n; cases n
/-- what an assignment to a name leaves -/
theorem En.set_new (E : En h G H σ ρ Fs) (k : Keep h H H') {i : Nat} {d : D} {v : V} {F : List Addr} (q : Rep h H' d F v) (fr : ∀ a ∈ F, H a = none ∧ NFrz H' a) (nd : F.Nodup) (hi : i < ρ.length) : En h G H' (σ.set i (some v)) (ρ.set i (.own d)) (setF Fs i F) :=
  (E.after k).store q (Apart.of E k fr nd) hi
end
section
variable {X : Cx} {st : Stmt} {sts rest : List Stmt} {e c a b : Expr} {es : List Expr} {pos pos' : Pos} {h : Hd} {f g : WS} {fe : WE} {ga : WA} {tc : WT}
theorem qnil : PSs X [] (tS h wNext) := pss_imp pss_nil fun D σ H w => by
  obtain ⟨G, ρ, Fs, W, E, w, nx, bk, ct, rt⟩ := w
  exact nx ρ w σ H Fs E
theorem qcons (p : PS X st (tS h f)) (q : PSs X rest (tS h g)) : PSs X (st :: rest) (tS h (wSeqS f g)) := pss_imp (pss_cons p q) fun D σ H w => by
  obtain ⟨G, ρ, Fs, W, E, w, nx, bk, ct, rt⟩ := w
  exact ⟨G, ρ, Fs, _, E, w, fun ρ' w' σ' H' Fs' E' => ⟨G, ρ', Fs', W, E', w', nx, bk, ct, rt⟩, bk, ct, rt⟩
theorem qone (p : PS X st (tS h f)) : PSs X [st] (tS h f) := pss_one p
theorem qpass : PS X (.Pass pos) (tS h wNext) := ps_imp ps_pass fun D σ H w => by
  obtain ⟨G, ρ, Fs, W, E, w, nx, bk, ct, rt⟩ := w
  exact nx ρ w σ H Fs E
theorem qbreak : PS X (.Break pos) (tS h wBreak) := ps_imp ps_break fun D σ H w => by
  obtain ⟨G, ρ, Fs, W, E, w, nx, bk, ct, rt⟩ := w
  exact bk ρ w σ H Fs E
theorem qcont : PS X (.Continue pos) (tS h wCont) := ps_imp ps_continue fun D σ H w => by
  obtain ⟨G, ρ, Fs, W, E, w, nx, bk, ct, rt⟩ := w
  exact ct ρ w σ H Fs E
theorem qnever : PS X st (tS h wNever) := ps_imp ps_never fun D σ H w => by
  obtain ⟨G, ρ, Fs, W, E, w, _⟩ := w
  exact w.elim
theorem qset {i : Nat} {x : Str} (hN : X.N.Nodup) (hi : X.N[i]? = some x) (hx : Loc X.env.scope x) (he : PE X e (tF h fe)) (hs : swapsWith e (some (.Name x pos')) pos.line X.env = pure false := by rfl) (hf : X.fn x = true ∨ X.env.scope.names.lookup x = some .local := by first | exact .inl rfl | exact .inr rfl | assumption) :
    PS X (.Assign [.Name x pos'] e pos) (tS h (wSet i fe)) := ps_imp (ps_set hN hi hx he hs hf) fun D σ H w => by
  obtain ⟨G, ρ, Fs, W, E, w, nx, bk, ct, rt⟩ := w
  exact ⟨G, ρ, Fs, _, E, w, fun d wd v H1 F k q fr nd => nx _ wd.2 _ H1 _ (E.set_new k q fr nd wd.1)⟩
theorem qdrop (he : PE X e (tF h fe)) (hs : swapsWith e none pos.line X.env = pure false := by rfl) : PS X (.Expr e pos) (tS h (wDrop fe)) := ps_imp (ps_expr he hs) fun D σ H w => by
  obtain ⟨G, ρ, Fs, W, E, w, nx, bk, ct, rt⟩ := w
  exact ⟨G, ρ, Fs, _, E, w, fun d wd v H1 F k q fr nd => nx _ wd _ H1 _ (E.after k)⟩
theorem qret (he : PE X e (tF h fe)) : PS X (.Return (some e) pos) (tS h (wRet fe)) := ps_imp (ps_ret he) fun D σ H w => by
  obtain ⟨G, ρ, Fs, W, E, w, nx, bk, ct, rt⟩ := w
  exact ⟨G, ρ, Fs, _, E, w, fun d wd v H1 F k q fr nd => rt d wd v H1 F (E.keep.trans k) q (fun a ha => ⟨E.fresh_g (fr a ha).1, (fr a ha).2⟩) nd⟩
theorem qretv {i : Nat} (he : PE X e (tVar i)) : PS X (.Return (some e) pos) (tS h (wRetV i)) := ps_imp (ps_ret he) fun D σ H w => by
  obtain ⟨G, ρ, Fs, W, E, w, nx, bk, ct, rt⟩ := w
  unfold wRetV at w
  split at w
  · rename_i d hd
    obtain ⟨x, ex, v, ev, r, nf⟩ := E.rep i _ hd
    subst ev
    exact ⟨v, ex, rt d w v H _ E.keep r (fun a ha => ⟨(E.own i a ha).1, nf a ha⟩) (E.nod i)⟩
  · rename_i d hd
    obtain ⟨x, ex, eF, v, F1, ev, r, q⟩ := E.rep i _ hd
    subst ev
    have := Rep.imm _ _ _ w.1 r
    subst this
    exact ⟨v, ex, rt d w.2 v H _ E.keep r (fun a ha => nomatch ha) List.nodup_nil⟩
  · rename_i v d hd
    obtain ⟨x, ex, eF, ev, F1, r, q⟩ := E.rep i _ hd
    subst ev
    have := Rep.imm _ _ _ w.1 r
    subst this
    exact ⟨v, ex, rt d w.2 v H _ E.keep r (fun a ha => nomatch ha) List.nodup_nil⟩
  · exact w.elim
theorem qretn : PS X (.Return none pos) (tS h wRetN) := ps_imp ps_retN fun D σ H w => by
  obtain ⟨G, ρ, Fs, W, E, w, nx, bk, ct, rt⟩ := w
  exact rt _ w _ H [] E.keep ⟨rfl, rfl⟩ (fun a ha => nomatch ha) List.nodup_nil
theorem qif (hc : PT X c (tT h tc)) (ha : PSs X sts (tS h f)) (hb : PSs X rest (tS h g)) : PS X (.If c sts rest pos) (tS h (wIfS tc f g)) := ps_imp (ps_if hc ha hb) fun D σ H w => by
  obtain ⟨G, ρ, Fs, W, E, w, nx, bk, ct, rt⟩ := w
  refine ⟨G, ρ, Fs, _, E, w, fun b wb H1 k => ?_⟩
  cases b with
  | true => rw [if_pos rfl] at wb ⊢; exact ⟨G, ρ, Fs, W, E.after k, wb, nx, bk, ct, rt⟩
  | false => rw [if_neg Bool.false_ne_true] at wb ⊢; exact ⟨G, ρ, Fs, W, E.after k, wb, nx, bk, ct, rt⟩
/-- two names -/
theorem qpar {i j : Nat} {x y : Str} {px py pt : Pos} {kt k2 pt2} (hc : X.calm = true) (hN : X.N.Nodup) (hi : X.N[i]? = some x) (hj : X.N[j]? = some y) (hij : i ≠ j)
    (hx : X.env.scope.names.lookup x = some .local) (hy : X.env.scope.names.lookup y = some .local) (ha : PA X [a, b] (tAF h ga))
    (hw : swappedStores [.Tuple [.Name x px, .Name y py] kt pt] (.Tuple [a, b] k2 pt2) X.env = pure (some [x, y]))
    (hs : swapsWithSole [.Tuple [.Name x px, .Name y py] kt pt] (.Tuple [a, b] k2 pt2) pos.line X.env = pure false := by rfl) :
    PS X (.Assign [.Tuple [.Name x px, .Name y py] kt pt] (.Tuple [a, b] k2 pt2) pos) (tS h (wPar i j ga)) := ps_imp (ps_par hc hN hi hj hij hx hy ha hw hs) fun D σ H w => by
  obtain ⟨G, ρ, Fs, W, E, w, nx, bk, ct, rt⟩ := w
  refine ⟨G, ρ, Fs, _, E, w, fun ds wd vs H1 F k q fr nd => ?_⟩
  split at wd
  · obtain ⟨F1, F2, v1, ys, rfl, rfl, r1, F3, F4, v2, zs, rfl, rfl, r2, rfl, rfl⟩ := q
    rw [List.append_nil] at fr nd
    obtain ⟨n1, n2, n3⟩ := List.nodup_append.mp nd
    have E1 := E.set_new k r1 (fun a ha => fr a (List.mem_append_left _ ha)) n1 wd.1
    refine ⟨v1, v2, rfl, nx _ wd.2.2 _ H1 _ (E1.store r2 ?_ (by rw [List.length_set]; exact wd.2.1))⟩
    obtain ⟨p1, p2⟩ := Apart.of (F := F3) E k (fun a ha => fr a (List.mem_append_right _ ha)) n2
    refine ⟨fun a ha => ⟨(p1 a ha).1, (p1 a ha).2.1, fun l hl => ?_⟩, p2⟩
    by_cases z : l = i
    · subst z; rw [setF_same] at hl; exact n3 a hl a ha rfl
    · rw [setF_ne z] at hl; exact (p1 a ha).2.2 l hl
  · exact wd.elim
theorem qpar3 {i j l : Nat} {x y z : Str} {e3 : Expr} {px py pz pt : Pos} {kt k2 pt2} (hc : X.calm = true) (hN : X.N.Nodup) (hi : X.N[i]? = some x) (hj : X.N[j]? = some y) (hl : X.N[l]? = some z) (hij : i ≠ j) (hil : i ≠ l) (hjl : j ≠ l)
    (hx : X.env.scope.names.lookup x = some .local) (hy : X.env.scope.names.lookup y = some .local) (hz : X.env.scope.names.lookup z = some .local) (ha : PA X [a, b, e3] (tAF h ga))
    (hw : swappedStores [.Tuple [.Name x px, .Name y py, .Name z pz] kt pt] (.Tuple [a, b, e3] k2 pt2) X.env = pure (some [x, y, z]))
    (hs : swapsWithSole [.Tuple [.Name x px, .Name y py, .Name z pz] kt pt] (.Tuple [a, b, e3] k2 pt2) pos.line X.env = pure false := by rfl) :
    PS X (.Assign [.Tuple [.Name x px, .Name y py, .Name z pz] kt pt] (.Tuple [a, b, e3] k2 pt2) pos) (tS h (wPar3 i j l ga)) := ps_imp (ps_par3 hc hN hi hj hl hij hil hjl hx hy hz ha hw hs) fun D σ H w => by
  obtain ⟨G, ρ, Fs, W, E, w, nx, bk, ct, rt⟩ := w
  refine ⟨G, ρ, Fs, _, E, w, fun ds wd vs H1 F k q fr nd => ?_⟩
  split at wd
  · obtain ⟨F1, F2, v1, ys, rfl, rfl, r1, F3, F4, v2, zs, rfl, rfl, r2, F5, F6, v3, us, rfl, rfl, r3, rfl, rfl⟩ := q
    rw [List.append_nil] at fr nd
    obtain ⟨n1, n2, n3⟩ := List.nodup_append.mp nd
    obtain ⟨n4, n5, n6⟩ := List.nodup_append.mp n2
    have E1 := E.set_new k r1 (fun a ha => fr a (List.mem_append_left _ ha)) n1 wd.1
    obtain ⟨p1, p2⟩ := Apart.of (F := F3 ++ F5) E k (fun a ha => fr a (List.mem_append_right _ ha)) n2
    have E2 := E1.store (i := j) r2 ⟨fun a ha => ⟨(p1 a (List.mem_append_left _ ha)).1, (p1 a (List.mem_append_left _ ha)).2.1, fun m hm => by
      by_cases z : m = i
      · subst z; rw [setF_same] at hm; exact n3 a hm a (List.mem_append_left _ ha) rfl
      · rw [setF_ne z] at hm; exact (p1 a (List.mem_append_left _ ha)).2.2 m hm⟩, n4⟩ (by rw [List.length_set]; exact wd.2.1)
    refine ⟨v1, v2, v3, rfl, nx _ wd.2.2.2 _ H1 _ (E2.store r3 ⟨fun a ha => ⟨(p1 a (List.mem_append_right _ ha)).1, (p1 a (List.mem_append_right _ ha)).2.1, fun m hm => ?_⟩, n5⟩ (by rw [List.length_set, List.length_set]; exact wd.2.2.1))⟩
    by_cases y : m = j
    · subst y; rw [setF_same] at hm; exact n6 a hm a ha rfl
    · rw [setF_ne y] at hm
      by_cases z : m = i
      · subst z; rw [setF_same] at hm; exact n3 a hm a (List.mem_append_right _ ha) rfl
      · rw [setF_ne z] at hm; exact (p1 a (List.mem_append_right _ ha)).2.2 m hm
  · exact wd.elim
theorem qasg {tg : Expr} {vs : List Nat} {t : WG} (he : PE X e (tF h fe)) (hg : PG X tg (tG h vs t)) (hs : swapsWithSole [tg] e pos.line X.env = pure false := by rfl) (hw : swappedStores [tg] e X.env = pure none := by rfl)
    (h1 : (assignEach [tg] X.env).map (·.2) = [assign tg X.env] := by rfl) : PS X (.Assign [tg] e pos) (tS h (wAsg fe t)) := ps_imp (ps_asg he hg hs hw h1) fun D σ H w => by
  obtain ⟨G, ρ, Fs, W, E, w, nx, bk, ct, rt⟩ := w
  refine ⟨G, ρ, Fs, _, E, w, fun d wd v H1 F k q fr nd => ?_⟩
  have := Rep.imm _ _ _ wd.1 q
  subst this
  exact ⟨G, ρ, Fs, d, _, E.after k, q, wd.2, fun ρ' w' σ' Fs' E' _ => nx ρ' w' σ' H1 Fs' E'⟩
theorem qmove {i j : Nat} {x : Str} (hN : X.N.Nodup) (hi : X.N[i]? = some x) (hx : Loc X.env.scope x) (he : PE X e (tVar j)) (hs : swapsWith e (some (.Name x pos')) pos.line X.env = pure false := by rfl) (hf : X.fn x = true ∨ X.env.scope.names.lookup x = some .local := by first | exact .inl rfl | exact .inr rfl | assumption) :
    PS X (.Assign [.Name x pos'] e pos) (tS h (wMove i j)) := ps_imp (ps_set hN hi hx he hs hf) fun D σ H w => by
  obtain ⟨G, ρ, Fs, W, E, w, nx, bk, ct, rt⟩ := w
  unfold wMove at w
  split at w
  · rename_i d hd
    obtain ⟨x, ex, v, ev, r, nf⟩ := E.rep j _ hd
    subst ev
    obtain ⟨hij, hi, w⟩ := w
    have hj : j < ρ.length := (List.getElem?_eq_some_iff.mp hd).1
    have E1 := E.forget (i := j) (x := some v) hj
    have E2 := E1.store (i := i) r ⟨fun a ha => ⟨E.own j a ha, nf a ha, fun m hm => by
      by_cases y : m = j
      · subst y; rw [setF_same] at hm; cases hm
      · rw [setF_ne y] at hm; exact y (E.dis m j a hm ha)⟩, E.nod j⟩ (by rw [List.length_set]; exact hi)
    · rw [List.set_comm _ _ hij.symm, List.set_comm _ _ hij.symm] at E2
      have e : (σ.set i (some v)).set j (some v) = σ.set i (some v) := by
        apply List.ext_getElem?
        intro m
        by_cases y : m = j
        · subst y
          rw [List.getElem?_set_self (by rw [List.length_set]; exact (List.getElem?_eq_some_iff.mp ex).1), List.getElem?_set_ne hij, ex]
        · rw [List.getElem?_set_ne (Ne.symm y)]
      rw [e] at E2
      exact ⟨v, ex, nx _ w _ H _ E2⟩
  · exact w.elim
theorem qwhile (hp : PassesOwn (model X.prog X.w) X.A X.env X.xe) (hc : PT X c (tT h tc)) (hb : PSs X sts (tS h f)) : PS X (.While c sts [] pos) (tS h (wWhile tc f)) := ps_imp (ps_while hp hc hb) fun D σ H w => by
  obtain ⟨G, ρ, Fs, W, E, w, nx, bk, ct, rt⟩ := w
  obtain ⟨I, ⟨m0, i0⟩, turn⟩ := w
  refine ⟨fun m σ' H' => ∃ ρ' Fs', I m ρ' ∧ En h G H' σ' ρ' Fs', ⟨m0, ρ, Fs, i0, E⟩, ?_⟩
  rintro m σ1 H1 ⟨ρ1, Fs1, i1, E1⟩
  refine ⟨G, ρ1, Fs1, _, E1, turn m ρ1 i1, fun b wb H2 k => ?_⟩
  cases b with
  | false => rw [if_neg Bool.false_ne_true] at wb ⊢; exact nx _ wb _ H2 _ (E1.after k)
  | true =>
    rw [if_pos rfl] at wb ⊢
    exact ⟨fun σ' H' => ∃ m', m' < m ∧ ∃ ρ' Fs', I m' ρ' ∧ En h G H' σ' ρ' Fs', fun σ' H' q => q, G, ρ1, Fs1, _, E1.after k, wb,
      fun ρ' ⟨m', l, i'⟩ σ' H' Fs' E' => ⟨m', l, ρ', Fs', i', E'⟩, fun ρ' w' σ' H' Fs' E' => nx ρ' w' σ' H' Fs' E', fun ρ' ⟨m', l, i'⟩ σ' H' Fs' E' => ⟨m', l, ρ', Fs', i', E'⟩, rt⟩
theorem qlock (i : Nat) (p : PS X st (tS h f)) : PS X st (tS h (wLock i f)) := ps_imp p fun D σ H w => by
  obtain ⟨G, ρ, Fs, W, E, w, nx, bk, ct, rt⟩ := w
  unfold wLock at w
  split at w
  · rename_i d hd
    obtain ⟨x, ex, v, ev, r, nf⟩ := E.rep i _ hd
    subst ev
    exact ⟨_, _, _, _, E.lock hd ex, w v, fun ρ' w' σ' H' Fs' E' => nx _ w'.2 σ' H' _ (E.unlock hd ex E' w'.1), fun ρ' w' σ' H' Fs' E' => bk _ w'.2 σ' H' _ (E.unlock hd ex E' w'.1), fun ρ' w' σ' H' Fs' E' => ct _ w'.2 σ' H' _ (E.unlock hd ex E' w'.1), rt⟩
  · exact w.elim
theorem qfor {tg iter : Expr} {vs : List Nat} {it : WI} {t : WG} (hp : PassesOwn (model X.prog X.w) X.A X.env X.xe) (hc : X.calm = true) (hi : PI X tg iter (tI h it)) (hg : PG X tg (tG h vs t)) (hb : PSs X sts (tS h f))
    (hs : ∀ x, foldedSetIterable iter X.env x = pure x := by intro _; rfl) : PS X (.For tg iter sts [] pos) (tS h (wFor it t f)) := ps_imp (ps_for hp hc hi hg hb hs) fun D σ H w => by
  obtain ⟨G, ρ, Fs, W, E, w, nx, bk, ct, rt⟩ := w
  refine ⟨G, ρ, Fs, _, E, w, fun items wi J H1 F k1 hF wk => ?_⟩
  have E1 := E.after k1
  have sta : ∀ {H2 σ2 ρ2 Fs2}, En h ⟨G.g, qAll h H1 Fs⟩ H2 σ2 ρ2 Fs2 → Sta h H1 F H2 := fun {H2 σ2 ρ2 Fs2} E2 =>
    ⟨fun a ha x e => E2.hold a x (by show qAll h H1 Fs a = some x; rw [qAll_some fun c => c.elim (hF a ha).1 fun ⟨j, c⟩ => (hF a ha).2.2 j c]; exact e),
     fun z b xs t => TupAt.of (fun o e _ => E2.hold b o (by show qAll h H1 Fs b = some o; rw [E1.tup_fast t]; exact e)) z t, E2.hand⟩
  refine ⟨fun i m σ2 H2 => m = items.length - i ∧ i ≤ items.length ∧ ∃ ρ2 Fs2, En h ⟨G.g, qAll h H1 Fs⟩ H2 σ2 ρ2 Fs2 ∧ forW t f W (lcks ρ) (items.drop i) ρ2,
    ⟨items.length, by simp, Nat.zero_le _, ρ, Fs, E1.fast, by rw [List.drop_zero]; exact wi⟩, ?_⟩
  rintro i m σ2 H2 ⟨rfl, hi, ρ2, Fs2, E2, w2⟩
  have st := sta E2
  by_cases hlt : i < items.length
  · have go := wk.go H2 st i _ (List.getElem?_eq_getElem hlt)
    rw [List.drop_eq_getElem_cons hlt] at w2
    refine .inr ⟨go.1, fun σ3 H3 => ∃ ρ3 Fs3, En h ⟨G.g, qAll h H1 Fs⟩ H3 σ3 ρ3 Fs3 ∧ forW t f W (lcks ρ) (items.drop (i + 1)) ρ3, fun σ3 H3 p => ⟨items.length - (i + 1), by omega, rfl, hlt, p⟩, fun x H3 y => ?_⟩
    obtain ⟨k3, rx⟩ := go.2 x H3 y
    refine ⟨_, _, _, _, _, E2.after k3, rx, w2, fun ρ4 w4 σ4 Fs4 E4 _ => ?_⟩
    exact ⟨_, _, _, _, E4, w4, fun ρ5 w5 σ5 H5 Fs5 E5 => ⟨ρ5, Fs5, E5, w5⟩, fun ρ5 w5 σ5 H5 Fs5 E5 => nx _ w5.2 _ _ _ (E1.free E5 w5.1), fun ρ5 w5 σ5 H5 Fs5 E5 => ⟨ρ5, Fs5, E5, w5⟩, rt⟩
  · have e : i = items.length := by omega
    subst e
    rw [List.drop_length] at w2
    exact .inl ⟨wk.stop H2 st, nx _ w2.2 _ _ _ (E1.free E2 w2.1)⟩
end
end PL

namespace PL
open PySem PySem.Spec PyProof.Rows L2

/-! ### what stands in a slot is written -/
section
variable {h : Hd} {G : Gd} {H H' : Hp} {σ : L2.St} {ρ : Rho} {Fs : Nat → List Addr}
theorem MutAt.not_any {a : Addr} (m : MutAt H a) (nf : NFrz H a) {x : HO} (e : H a = some x) : (∀ ys, x ≠ .tup ys) ∧ ∀ u ys, x ≠ .frz u ys := by
  refine ⟨fun ys z => ?_, fun u ys z => by subst z; exact nf _ _ e⟩
  subst z
  rcases m with ⟨_, m⟩ | ⟨_, m | ⟨_, m⟩⟩ | ⟨_, m | ⟨_, m⟩⟩ <;> (rw [e] at m; cases m)
theorem En.put (E : En h G H σ ρ Fs) {i : Nat} {d d' : D} {a : Addr} {v : V} {o : HO} {F' : List Addr} (hd : ρ[i]? = some (.own d)) (ev : σ[i]? = some (some v)) (ha : a ∈ Fs i) (q : Rep h (upd H a o) d' F' v) (nfo : ∀ u w, o ≠ .frz u w)
    (fF : ∀ b ∈ F', b ∈ Fs i ∨ ((G.g b = none ∧ G.q b = none) ∧ NFrz H b ∧ ∀ j, b ∉ Fs j)) (nd : F'.Nodup) : En h G (upd H a o) σ (ρ.set i (.own d')) (setF Fs i F') ∧ ∀ z b xs, TupAt H z b xs → TupAt (upd H a o) z b xs := by
  have hi : i < ρ.length := (List.getElem?_eq_some_iff.mp hd).1
  obtain ⟨x, ex, v0, ev0, r0, nf⟩ := E.rep i _ hd
  obtain ⟨y, ey⟩ := E.there ha
  have na := (E.mut ha).not_any (nf a ha) ey
  have tup : ∀ z b xs, TupAt H z b xs → TupAt (upd H a o) z b xs := fun z b xs t => upd_tup ey na.1 na.2 t
  have ga := E.own i a ha
  have nfu : ∀ {b : Addr}, NFrz H b → NFrz (upd H a o) b := fun {b} n u w e => by
    by_cases z : b = a
    · subst z; rw [upd_same] at e; exact nfo _ _ (Option.some.inj e)
    · rw [upd_ne z] at e; exact n _ _ e
  have kp : Keep h G.g (upd H a o) := Keep.write E.keep ga.1 E.gp E.gc ey na.1 na.2
  have nG : ∀ {b : Addr}, G.g b ≠ none → b ≠ a := fun n z => n (by rw [z]; exact ga.1)
  have nQ : ∀ {b : Addr}, G.q b ≠ none → b ≠ a := fun n z => n (by rw [z]; exact ga.2)
  refine ⟨⟨kp, fun b x e => ?_, E.hand.same (upd_ne (nG E.gp)) (upd_ne (nG E.gc)), E.gp, E.gc, E.qp, by simp [E.len], fun j s e => ?_, fun j hj => ?_, fun j k b hj hk => ?_, fun j => ?_, fun j b hj => ?_⟩, tup⟩
  · rw [upd_ne (nQ (by rw [e]; exact fun z => nomatch z))]; exact E.hold b x e
  · by_cases z : j = i
    · subst z
      rw [List.getElem?_set_self hi] at e
      cases e
      refine ⟨some v, ev, ?_⟩
      rw [setF_same]
      refine ⟨v, rfl, q, fun b hb => nfu ?_⟩
      rcases fF b hb with y | y
      · exact nf b y
      · exact y.2.1
    · rw [List.getElem?_set_ne (Ne.symm z)] at e
      obtain ⟨x, ex, r⟩ := E.rep j s e
      refine ⟨x, ex, ?_⟩
      rw [setF_ne z]
      have nj : ∀ {b : Addr}, b ∈ Fs j → b ≠ a := fun {b} hb y => z (E.dis j i b hb (by rw [y]; exact ha))
      cases s with
      | no => exact r
      | own dj =>
        obtain ⟨vj, e1, r, nf1⟩ := r
        exact ⟨vj, e1, Rep.mono tup _ _ _ (fun b hb x e => by rw [upd_ne (nj hb)]; exact e) r, fun b hb => nfu (nf1 b hb)⟩
      | bor dj =>
        obtain ⟨e0, vj, F1, e1, r, q1⟩ := r
        exact ⟨e0, vj, F1, e1, Rep.mono tup _ _ _ (fun b hb x e => by rw [upd_ne (nG (q1 b hb).1)]; exact e) r, q1⟩
      | lck vj dj =>
        obtain ⟨e0, e1, F1, r, q1⟩ := r
        exact ⟨e0, e1, F1, Rep.mono tup _ _ _ (fun b hb x e => by rw [upd_ne (nQ (q1 b hb).1)]; exact e) r, q1⟩
  · rw [List.length_set] at hj
    rw [setF_ne (by omega)]
    exact E.out j hj
  · have mem : ∀ {l c : Addr}, c ∈ setF Fs i F' l → (l = i ∧ c ∈ F') ∨ (l ≠ i ∧ c ∈ Fs l) := fun {l c} hc => by
      by_cases y : l = i
      · subst y; rw [setF_same] at hc; exact .inl ⟨rfl, hc⟩
      · rw [setF_ne y] at hc; exact .inr ⟨y, hc⟩
    rcases mem hj with ⟨rfl, m1⟩ | ⟨n1, m1⟩ <;> rcases mem hk with ⟨rfl, m2⟩ | ⟨n2, m2⟩
    · rfl
    · rcases fF b m1 with y | y
      · exact E.dis _ _ b y m2
      · exact absurd m2 (y.2.2 k)
    · rcases fF b m2 with y | y
      · exact E.dis _ _ b m1 y
      · exact absurd m1 (y.2.2 j)
    · exact E.dis _ _ b m1 m2
  · by_cases z : j = i
    · subst z; rw [setF_same]; exact nd
    · rw [setF_ne z]; exact E.nod j
  · by_cases z : j = i
    · subst z
      rw [setF_same] at hj
      rcases fF b hj with y | y
      · exact E.own j b y
      · exact y.1
    · rw [setF_ne z] at hj; exact E.own j b hj
/-- what an own list is -/
theorem En.lst (E : En h G H σ ρ Fs) {i : Nat} {ds : List D} (hd : ρ[i]? = some (.own (.lst ds))) : ∃ a xs F1, σ[i]? = some (some (.ref a)) ∧ Fs i = a :: F1 ∧ H a = some (.lst xs) ∧ RepL h H ds F1 xs ∧ a ∉ F1 ∧ F1.Nodup := by
  obtain ⟨x, ex, v, ev, ⟨a, xs, F1, rfl, eF, e3, r⟩, nf⟩ := E.rep i _ hd
  subst ev
  have n := E.nod i
  rw [eF] at n
  obtain ⟨n1, n2⟩ := List.nodup_cons.mp n
  exact ⟨a, xs, F1, ex, eF, e3, r, n1, n2⟩
theorem En.put_lst (E : En h G H σ ρ Fs) {i : Nat} {ds ds' : List D} {a : Addr} {xs ys : List V} {F1 F2 : List Addr} (hd : ρ[i]? = some (.own (.lst ds))) (ev : σ[i]? = some (some (.ref a))) (eF : Fs i = a :: F1) (eH : H a = some (.lst xs)) (na : a ∉ F1)
    (r : RepL h H ds' F2 ys) (nd : F2.Nodup) (fF : ∀ b ∈ F2, b ∈ F1 ∨ ((G.g b = none ∧ G.q b = none) ∧ NFrz H b ∧ ∀ j, b ∉ Fs j)) : En h G (upd H a (.lst ys)) σ (ρ.set i (.own (.lst ds'))) (setF Fs i (a :: F2)) ∧ ∀ z b xs, TupAt H z b xs → TupAt (upd H a (.lst ys)) z b xs := by
  have ha : a ∈ Fs i := by rw [eF]; simp
  have nF : a ∉ F2 := fun z => by
    rcases fF a z with y | y
    · exact na y
    · exact y.2.2 i ha
  obtain ⟨x, ex, v0, ev0, r0, nf⟩ := E.rep i _ hd
  have naH := (E.mut ha).not_any (nf a ha) eH
  refine E.put hd ev ha ⟨a, ys, F2, rfl, rfl, upd_same, RepL.mono (fun z b xs t => upd_tup eH naH.1 naH.2 t) _ _ _ (fun b hb x e => by rw [upd_ne (fun z => nF (by rw [← z]; exact hb))]; exact e) r⟩ (fun u w z => nomatch z) (fun b hb => ?_) (List.nodup_cons.mpr ⟨nF, nd⟩)
  rcases List.mem_cons.mp hb with z | z
  · subst z; exact .inl ha
  · rcases fF b z with y | y
    · exact .inl (by rw [eF]; exact List.mem_cons_of_mem _ y)
    · exact .inr y
theorem En.dic (E : En h G H σ ρ Fs) {i : Nat} {ks : List Key} {ds : List D} (hd : ρ[i]? = some (.own (.dic ks ds))) : ∃ a kvs F1, σ[i]? = some (some (.ref a)) ∧ Fs i = a :: F1 ∧ H a = some (.dK kvs) ∧ (kvs.map (·.1) = ks ∧ ks.Nodup) ∧ RepL h H ds F1 (kvs.map (·.2)) ∧ a ∉ F1 ∧ F1.Nodup := by
  obtain ⟨x, ex, v, ev, ⟨a, kvs, F1, rfl, eF, e3, e4, r⟩, nf⟩ := E.rep i _ hd
  subst ev
  have n := E.nod i
  rw [eF] at n
  obtain ⟨n1, n2⟩ := List.nodup_cons.mp n
  rcases e3 with e3 | ⟨o, e3⟩
  · exact ⟨a, kvs, F1, ex, eF, e3, e4, r, n1, n2⟩
  · exact absurd e3 (nf a (by rw [eF]; simp) _ _)
theorem En.dit (E : En h G H σ ρ Fs) {i : Nat} {ks : List (List Key)} {ds : List D} (hd : ρ[i]? = some (.own (.dit ks ds))) : ∃ a kvs F1, σ[i]? = some (some (.ref a)) ∧ Fs i = a :: F1 ∧ H a = some (.dT kvs) ∧ (kvs.map (·.1) = ks ∧ ks.Nodup) ∧ RepL h H ds F1 (kvs.map (·.2)) ∧ a ∉ F1 ∧ F1.Nodup := by
  obtain ⟨x, ex, v, ev, ⟨a, kvs, F1, rfl, eF, e3, e4, r⟩, nf⟩ := E.rep i _ hd
  subst ev
  have n := E.nod i
  rw [eF] at n
  obtain ⟨n1, n2⟩ := List.nodup_cons.mp n
  rcases e3 with e3 | ⟨o, e3⟩
  · exact ⟨a, kvs, F1, ex, eF, e3, e4, r, n1, n2⟩
  · exact absurd e3 (nf a (by rw [eF]; simp) _ _)
theorem En.put_dic (E : En h G H σ ρ Fs) {i : Nat} {ks ks' : List Key} {ds ds' : List D} {a : Addr} {kvs kvs' : List (Key × V)} {F1 F2 : List Addr} (hd : ρ[i]? = some (.own (.dic ks ds))) (ev : σ[i]? = some (some (.ref a))) (eF : Fs i = a :: F1) (eH : H a = some (.dK kvs)) (na : a ∉ F1)
    (ek : kvs'.map (·.1) = ks' ∧ ks'.Nodup) (r : RepL h H ds' F2 (kvs'.map (·.2))) (nd : F2.Nodup) (fF : ∀ b ∈ F2, b ∈ F1 ∨ ((G.g b = none ∧ G.q b = none) ∧ NFrz H b ∧ ∀ j, b ∉ Fs j)) : En h G (upd H a (.dK kvs')) σ (ρ.set i (.own (.dic ks' ds'))) (setF Fs i (a :: F2)) ∧ ∀ z b xs, TupAt H z b xs → TupAt (upd H a (.dK kvs')) z b xs := by
  have ha : a ∈ Fs i := by rw [eF]; simp
  have nF : a ∉ F2 := fun z => by
    rcases fF a z with y | y
    · exact na y
    · exact y.2.2 i ha
  obtain ⟨x, ex, v0, ev0, r0, nf⟩ := E.rep i _ hd
  have naH := (E.mut ha).not_any (nf a ha) eH
  refine E.put hd ev ha ⟨a, kvs', F2, rfl, rfl, .inl upd_same, ek, RepL.mono (fun z b xs t => upd_tup eH naH.1 naH.2 t) _ _ _ (fun b hb x e => by rw [upd_ne (fun z => nF (by rw [← z]; exact hb))]; exact e) r⟩ (fun u w z => nomatch z) (fun b hb => ?_) (List.nodup_cons.mpr ⟨nF, nd⟩)
  rcases List.mem_cons.mp hb with z | z
  · subst z; exact .inl ha
  · rcases fF b z with y | y
    · exact .inl (by rw [eF]; exact List.mem_cons_of_mem _ y)
    · exact .inr y
theorem En.put_dit (E : En h G H σ ρ Fs) {i : Nat} {ks ks' : List (List Key)} {ds ds' : List D} {a : Addr} {kvs kvs' : List (List Key × V)} {F1 F2 : List Addr} (hd : ρ[i]? = some (.own (.dit ks ds))) (ev : σ[i]? = some (some (.ref a))) (eF : Fs i = a :: F1) (eH : H a = some (.dT kvs)) (na : a ∉ F1)
    (ek : kvs'.map (·.1) = ks' ∧ ks'.Nodup) (r : RepL h H ds' F2 (kvs'.map (·.2))) (nd : F2.Nodup) (fF : ∀ b ∈ F2, b ∈ F1 ∨ ((G.g b = none ∧ G.q b = none) ∧ NFrz H b ∧ ∀ j, b ∉ Fs j)) : En h G (upd H a (.dT kvs')) σ (ρ.set i (.own (.dit ks' ds'))) (setF Fs i (a :: F2)) ∧ ∀ z b xs, TupAt H z b xs → TupAt (upd H a (.dT kvs')) z b xs := by
  have ha : a ∈ Fs i := by rw [eF]; simp
  have nF : a ∉ F2 := fun z => by
    rcases fF a z with y | y
    · exact na y
    · exact y.2.2 i ha
  obtain ⟨x, ex, v0, ev0, r0, nf⟩ := E.rep i _ hd
  have naH := (E.mut ha).not_any (nf a ha) eH
  refine E.put hd ev ha ⟨a, kvs', F2, rfl, rfl, .inl upd_same, ek, RepL.mono (fun z b xs t => upd_tup eH naH.1 naH.2 t) _ _ _ (fun b hb x e => by rw [upd_ne (fun z => nF (by rw [← z]; exact hb))]; exact e) r⟩ (fun u w z => nomatch z) (fun b hb => ?_) (List.nodup_cons.mpr ⟨nF, nd⟩)
  rcases List.mem_cons.mp hb with z | z
  · subst z; exact .inl ha
  · rcases fF b z with y | y
    · exact .inl (by rw [eF]; exact List.mem_cons_of_mem _ y)
    · exact .inr y
end

/-! ### x[i] = e -/
/-- the slot's thing with an item stored -/
def storeD (s y d : D) (R : D → Prop) : Prop := match s with
  | .lst ds => match y with
    | .v (.int n) => match ixN ds.length n with
      | some j => R (.lst (ds.set j d))
      | none => False
    | _ => False
  | .dic ks ds => match y.key with
    | some k => ks.length < sizeLine ∧ R (.dic (putD ks ds k d).1 (putD ks ds k d).2)
    | none => False
  | .dit ks ds => match y.keyT with
    | some k => ks.length < sizeLine ∧ R (.dit (putD ks ds k d).1 (putD ks ds k d).2)
    | none => False
  | _ => False
def ownD (ρ : Rho) (i : Nat) (R : D → Prop) : Prop := match ρ[i]? with
  | some (.own d) => R d
  | _ => False
theorem ownD_some {ρ : Rho} {i : Nat} {R : D → Prop} (w : ownD ρ i R) : ∃ d, ρ[i]? = some (.own d) ∧ R d := by
  unfold ownD at w
  split at w
  · exact ⟨_, by assumption, w⟩
  · exact w.elim
/-- values of objects, stored in targets that may be items -/
def tM (h : Hd) (t : WG) : TG := fun v σ H Q => ∃ G ρ Fs d R, En h G H σ ρ Fs ∧ Rep h H d [] v ∧ t d ρ R ∧ ∀ ρ', R ρ' → ∀ σ' H' Fs', En h G H' σ' ρ' Fs' → (∀ z b xs, TupAt H z b xs → TupAt H' z b xs) → Q σ' H'
def tMs (h : Hd) (t : List D → Rho → (Rho → Prop) → Prop) : TGs := fun xs σ H Q => ∃ G ρ Fs ds R, En h G H σ ρ Fs ∧ RepL h H ds [] xs ∧ t ds ρ R ∧ ∀ ρ', R ρ' → ∀ σ' H' Fs', En h G H' σ' ρ' Fs' → (∀ z b xs, TupAt H z b xs → TupAt H' z b xs) → Q σ' H'
def wSub (i : Nat) (fk : WE) : WG := fun d ρ R => ownD ρ i fun s => fk ρ fun y => storeD s y d fun s' => R (ρ.set i (.own s'))
def wMs : List WG → List D → Rho → (Rho → Prop) → Prop
  | [], [], ρ, R => R ρ
  | t :: ts, d :: ds, ρ, R => t d ρ fun ρ' => wMs ts ds ρ' R
  | _, _, _, _ => False
def wMT (ts : List WG) : WG := fun d ρ R => match d with
  | .tup _ ds => wMs ts ds ρ R
  | _ => False
def rStore : TSet := fun o i v H Q => rSetL o i v H Q ∨ rSetD o i v H Q
def wStore (i : Nat) (fk fv : WE) : WS := fun W ρ => fv ρ fun d => ownD ρ i fun s => fk ρ fun y => storeD s y d fun s' => W.nx (ρ.set i (.own s'))
section
variable {X : Cx} {o e k : Expr} {es : List Expr} {pos pos' : Pos} {h : Hd} {fk fv : WE} {i : Nat}
theorem set_store (hu : X.A.units + 1 < cLine) : PSet X rStore := by
  intro pins s σ H o i v ov iv u Q I r1 r2 r3 w
  rcases w with w | w
  · exact set_list pins s σ H o i v ov iv u Q I r1 r2 r3 w
  · exact set_dict hu pins s σ H o i v ov iv u Q I r1 r2 r3 w
theorem store_sound {G : Gd} {H : Hp} {σ : L2.St} {ρ : Rho} {Fs : Nat → List Addr} (E : En h G H σ ρ Fs) {s y d : D} {R : D → Prop} {Fy F : List Addr} {yv v : V} {Q : Hp → Prop} (hd : ρ[i]? = some (.own s)) (w : storeD s y d R) (ry : Rep h H y Fy yv) (rv : Rep h H d F v) (ap : Apart G Fs H F)
    (c : ∀ s', R s' → ∀ H' Fs', En h G H' σ (ρ.set i (.own s')) Fs' → (∀ z b xs, TupAt H z b xs → TupAt H' z b xs) → Q H') : ∃ o, σ[i]? = some (some o) ∧ rStore o yv v H Q := by
  unfold storeD at w
  split at w
  · rename_i ds
    split at w
    · rename_i n
      split at w
      · rename_i j ej
        obtain ⟨a, xs, F1, ev, eF, eH, r, na, nd⟩ := E.lst hd
        obtain ⟨F2, r2, m2, n2⟩ := set_rep (i := j) r rv
        have dj : ∀ b ∈ F1, b ∉ F := fun b hb hf => (ap.1 b hf).2.2 i (by rw [eF]; exact List.mem_cons_of_mem _ hb)
        obtain ⟨E', tp⟩ := E.put_lst hd ev eF eH na r2 (n2 nd ap.2 dj) fun b hb => (m2 b hb).imp id fun z => ap.1 b z
        exact ⟨.ref a, ev, .inl ⟨a, xs, n, j, rfl, ry.2, eH, by rw [r.length]; exact ej, c _ w _ _ E' tp⟩⟩
      · exact w.elim
    · exact w.elim
  · rename_i ks ds
    split at w
    · rename_i kk ek
      obtain ⟨a, kvs, F1, ev, eF, eH, e4, r, na, nd⟩ := E.dic hd
      obtain ⟨e4, nk⟩ := e4
      subst e4
      obtain ⟨i1, F2, r2, m2, n2⟩ := put_rep (k := kk) nk r rv
      have dj : ∀ b ∈ F1, b ∉ F := fun b hb hf => (ap.1 b hf).2.2 i (by rw [eF]; exact List.mem_cons_of_mem _ hb)
      have ll : (kvs.map (·.1)).length = ds.length := by rw [← r.length, List.length_map, List.length_map]
      obtain ⟨E', tp⟩ := E.put_dic hd ev eF eH na ⟨i1, putD_nodup ll nk⟩ r2 (n2 nd ap.2 dj) fun b hb => (m2 b hb).imp id fun z => ap.1 b z
      exact ⟨.ref a, ev, .inr ⟨a, _, rfl, .inl ⟨kvs, kk, eH, key_v ek ry, by have := w.1; rw [List.length_map] at this; exact this, rfl⟩, c _ w.2 _ _ E' tp⟩⟩
    · exact w.elim
  · rename_i ks ds
    split at w
    · rename_i kk ek
      obtain ⟨a, kvs, F1, ev, eF, eH, e4, r, na, nd⟩ := E.dit hd
      obtain ⟨e4, nk⟩ := e4
      subst e4
      obtain ⟨i1, F2, r2, m2, n2⟩ := put_rep (k := kk) nk r rv
      have dj : ∀ b ∈ F1, b ∉ F := fun b hb hf => (ap.1 b hf).2.2 i (by rw [eF]; exact List.mem_cons_of_mem _ hb)
      have ll : (kvs.map (·.1)).length = ds.length := by rw [← r.length, List.length_map, List.length_map]
      obtain ⟨E', tp⟩ := E.put_dit hd ev eF eH na ⟨i1, putD_nodup ll nk⟩ r2 (n2 nd ap.2 dj) fun b hb => (m2 b hb).imp id fun z => ap.1 b z
      obtain ⟨b', eb, eb2⟩ := keyT_v ek ry
      exact ⟨.ref a, ev, .inr ⟨a, _, rfl, .inr ⟨kvs, kk, b', eH, eb, eb2, by have := w.1; rw [List.length_map] at this; exact this, rfl⟩, c _ w.2 _ _ E' tp⟩⟩
    · exact w.elim
  · exact w.elim
theorem tm_sub (hu : X.A.units + 1 < cLine) (ho : PE X o (tVar i)) (hk : PE X k (tP h fk))
    (ha : ∀ v, assign (.Subscript o k pos) X.env v = (do
      let ov ← holding [v] (eval o X.env)
      let iv ← holding [v, ov] (eval k X.env)
      standAt pos
      holding [v, ov, iv] (setItem ov iv v)
      release [v, ov, iv] []) := by intro _; rfl) : PG X (.Subscript o k pos) (tM h (wSub i fk)) := ⟨fun pins s σ H v u Q I r w => (pg_sub ho hk (set_store hu) ha).run pins s σ H v u Q I r (by
  obtain ⟨G, ρ, Fs, d, R, E, q, w, c⟩ := w
  obtain ⟨s0, hd, w⟩ := ownD_some w
  obtain ⟨x, ex, vo, ev, _⟩ := E.rep i _ hd
  subst ev
  refine ⟨vo, ex, G, ρ, Fs, _, E, w, fun y wy yv H2 Fy k2 qy ny => ?_⟩
  have E2 := E.after k2
  obtain ⟨o', eo', st⟩ := store_sound (Q := fun H3 => Q σ H3) E2 hd wy qy (rep_mono k2.tup q) Apart.nil fun s' w' H' Fs' E' tp => c _ w' σ H' Fs' E' fun z b xs t => tp z b xs (k2.tup z b xs t)
  rw [ex] at eo'
  cases eo'
  exact st)⟩
theorem tm_name {x : Str} (hN : X.N.Nodup) (hi : X.N[i]? = some x) (hx : Loc X.env.scope x) (hf : X.fn x = true ∨ X.env.scope.names.lookup x = some .local := by first | exact .inl rfl | exact .inr rfl | assumption) : PG X (.Name x pos) (tM h (wN i)) := ⟨fun pins s σ H v u Q I r w => (pg_name hN hi hx hf).run pins s σ H v u Q I r (by
  obtain ⟨G, ρ, Fs, d, R, E, q, ⟨hi, w⟩, c⟩ := w
  exact c _ w _ _ _ (E.store q Apart.nil hi) fun _ _ _ t => t)⟩
theorem tms_nil : PGs X [] (tMs h (wMs [])) := ⟨fun pins s σ H xs us Q I r w => pgs_nil.run pins s σ H xs us Q I r (by
  obtain ⟨G, ρ, Fs, ds, R, E, q, w, c⟩ := w
  cases ds with
  | nil => exact ⟨q.2, c _ w _ _ _ E fun _ _ _ t => t⟩
  | cons d ds => exact w.elim)⟩
theorem tms_cons {t : WG} {ts : List WG} (h1 : PG X e (tM h t)) (h2 : PGs X es (tMs h (wMs ts)))
    (hs : (assignEach (e :: es) X.env).map (·.2) = assign e X.env :: (assignEach es X.env).map (·.2) := by rfl) : PGs X (e :: es) (tMs h (wMs (t :: ts))) := ⟨fun pins s σ H xs us Q I r w => (pgs_cons h1 h2 hs).run pins s σ H xs us Q I r (by
  obtain ⟨G, ρ, Fs, ds, R, E, q, w, c⟩ := w
  cases ds with
  | nil => exact w.elim
  | cons d ds =>
    obtain ⟨F1, F2, x, ys, eF, ex, r1, r2⟩ := q
    obtain ⟨f1, f2⟩ := List.append_eq_nil_iff.mp eF.symm
    subst f1 f2
    refine ⟨x, ys, ex, G, ρ, Fs, d, _, E, r1, w, fun ρ' w' σ' H' Fs' E' tp => ?_⟩
    exact ⟨G, ρ', Fs', ds, R, E', repL_mono tp r2, w', fun ρ2 r2 σ2 H2 Fs2 E2 tp2 => c ρ2 r2 σ2 H2 Fs2 E2 fun z b xs t => tp2 z b xs (tp z b xs t)⟩)⟩
def wMT2 (t1 t2 : WG) : WG := fun d ρ R => match d with
  | .tup _ [a, b] => t1 a ρ fun ρ' => t2 b ρ' R
  | _ => False
theorem tm_tup2 {e1 e2 : Expr} {kk : Nat} {t1 t2 : WG} (hc : X.calm = true) (p : PGs X [e1, e2] (tMs h (wMs [t1, t2]))) (hn : (assignEach [e1, e2] X.env).length = 2 := by rfl) (hst : (assignEach [e1, e2] X.env).findIdx? (·.1) = none := by rfl) : PG X (.Tuple [e1, e2] kk pos) (tM h (wMT2 t1 t2)) := ⟨fun pins s σ H v u Q I r w => (pg_tup hc p hn hst).run pins s σ H v u Q I r (by
  obtain ⟨G, ρ, Fs, d, R, E, q, w, c⟩ := w
  unfold wMT2 at w
  split at w
  · obtain ⟨a, xs, rfl, e3, rl⟩ := q
    exact ⟨a, xs, rfl, e3.sq, rl.length, G, ρ, Fs, _, R, E, rl, w, c⟩
  · exact w.elim)⟩
theorem qasgM {tg : Expr} {t : WG} (he : PE X e (tF h fv)) (hg : PG X tg (tM h t)) (hs : swapsWithSole [tg] e pos.line X.env = pure false := by rfl) (hw : swappedStores [tg] e X.env = pure none := by rfl)
    (h1 : (assignEach [tg] X.env).map (·.2) = [assign tg X.env] := by rfl) : PS X (.Assign [tg] e pos) (tS h (wAsg fv t)) := ps_imp (ps_asg he hg hs hw h1) fun D σ H w => by
  obtain ⟨G, ρ, Fs, W, E, w, nx, bk, ct, rt⟩ := w
  refine ⟨G, ρ, Fs, _, E, w, fun d wd v H1 F k q fr nd => ?_⟩
  have := Rep.imm _ _ _ wd.1 q
  subst this
  exact ⟨G, ρ, Fs, d, _, E.after k, q, wd.2, fun ρ' w' σ' H' Fs' E' _ => nx ρ' w' σ' H' Fs' E'⟩
/-- x[i] = e, whatever e makes -/
theorem qstore (hu : X.A.units + 1 < cLine) (ho : PE X o (tVar i)) (hk : PE X k (tP h fk)) (he : PE X e (tF h fv)) (hs : swapsWithSole [.Subscript o k pos'] e pos.line X.env = pure false := by rfl) (hw : swappedStores [.Subscript o k pos'] e X.env = pure none := by rfl)
    (h1 : (assignEach [.Subscript o k pos'] X.env).map (·.2) = [assign (.Subscript o k pos') X.env] := by rfl)
    (ha : ∀ v, assign (.Subscript o k pos') X.env v = (do
      let ov ← holding [v] (eval o X.env)
      let iv ← holding [v, ov] (eval k X.env)
      standAt pos'
      holding [v, ov, iv] (setItem ov iv v)
      release [v, ov, iv] []) := by intro _; rfl) : PS X (.Assign [.Subscript o k pos'] e pos) (tS h (wStore i fk fv)) := ps_imp (ps_asg he (pg_sub ho hk (set_store hu) ha) hs hw h1) fun D σ H w => by
  obtain ⟨G, ρ, Fs, W, E, w, nx, bk, ct, rt⟩ := w
  refine ⟨G, ρ, Fs, _, E, w, fun d wd v H1 F k1 q fr nd => ?_⟩
  obtain ⟨s0, hd, w⟩ := ownD_some wd
  have E1 := E.after k1
  obtain ⟨x, ex, vo, ev, _⟩ := E1.rep i _ hd
  subst ev
  have np : ∀ a ∈ F, a ≠ h.p := fun a ha => np_of E.hand (fr a ha).1
  refine ⟨vo, ex, G, ρ, Fs, _, E1, w, fun y wy yv H2 Fy k2 qy ny => ?_⟩
  have E2 := E1.after k2
  have ap := Apart.of E k1 fr nd
  have ap2 : Apart G Fs H2 F := ⟨fun a ha => ⟨(ap.1 a ha).1, nf_keep k2 (np a ha) (Rep.there _ _ _ q a ha) (fr a ha).2, (ap.1 a ha).2.2⟩, nd⟩
  obtain ⟨o', eo', st⟩ := store_sound (Q := fun H3 => D.nx σ H3) E2 hd wy qy (q.keep k2 np) ap2 fun s' w' H' Fs' E' tp => nx _ w' σ H' Fs' E'
  rw [ex] at eo'
  cases eo'
  exact st
end

/-! ### statements that change what a name holds: o.m(e) -/
def ownL (ρ : Rho) (i : Nat) (R : List D → Prop) : Prop := match ρ[i]? with
  | some (.own (.lst ds)) => R ds
  | _ => False
theorem ownL_some {ρ : Rho} {i : Nat} {R : List D → Prop} (w : ownL ρ i R) : ∃ ds, ρ[i]? = some (.own (.lst ds)) ∧ R ds := by
  unfold ownL at w
  split at w
  · exact ⟨_, by assumption, w⟩
  · exact w.elim
def ownK (ρ : Rho) (i : Nat) (R : List Key → List D → Prop) : Prop := match ρ[i]? with
  | some (.own (.dic ks ds)) => R ks ds
  | _ => False
theorem ownK_some {ρ : Rho} {i : Nat} {R : List Key → List D → Prop} (w : ownK ρ i R) : ∃ ks ds, ρ[i]? = some (.own (.dic ks ds)) ∧ R ks ds := by
  unfold ownK at w
  split at w
  · exact ⟨_, _, by assumption, w⟩
  · exact w.elim
/-- o.append(e) -/
def wApp (i : Nat) (f : WE) : WS := fun W ρ => ownL ρ i fun ds => f ρ fun d => ds.length < sizeLine ∧ W.nx (ρ.set i (.own (.lst (ds ++ [d]))))
/-- o.remove(e), of ints, one that is there -/
def wRem (i : Nat) (f : WE) : WS := fun W ρ => ownL ρ i fun ds => f ρ fun d => match d with
  | .v (.int k) => match intsOf ds with
    | some ns => k ∈ ns ∧ W.nx (ρ.set i (.own (.lst ((ns.erase k).map fun n => .v (.int n)))))
    | none => False
  | _ => False
/-- o.update(e) -/
def wUpd (i : Nat) (f : WE) : WS := fun W ρ => ownK ρ i fun ks ds => f ρ fun d => match d with
  | .dic ks2 ds2 => immL ds = true ∧ immL ds2 = true ∧ ks.length + ks2.length ≤ sizeLine ∧ W.nx (ρ.set i (.own (.dic (mergeD ks ds (ks2.zip ds2)).1 (mergeD ks ds (ks2.zip ds2)).2)))
  | _ => False
/-- o.append(p.pop(e)) -/
def wAppPop (i j : Nat) (f : WE) : WS := fun W ρ => ownL ρ i fun ds => ownL ρ j fun es => i ≠ j ∧ f ρ fun d => match d with
  | .v (.int n) => -(2 ^ 63) ≤ n ∧ n < 2 ^ 63 ∧ immL es = true ∧ ds.length < sizeLine ∧ match seqIndex? n es.length with
    | some m => match es[m]? with
      | some x => W.nx ((ρ.set j (.own (.lst (es.eraseIdx m)))).set i (.own (.lst (ds ++ [x]))))
      | none => False
    | none => False
  | _ => False
section
variable {X : Cx} {o e k : Expr} {es : List Expr} {apos cpos pos : Pos} {h : Hd} {f : WE} {i j : Nat}
/-- an item laid behind an own list -/
theorem app_sound {G : Gd} {H : Hp} {σ : L2.St} {ρ : Rho} {Fs : Nat → List Addr} (E : En h G H σ ρ Fs) {ds : List D} {d : D} {F : List Addr} {v : V} (hd : ρ[i]? = some (.own (.lst ds))) (q : Rep h H d F v) (ap : Apart G Fs H F) :
    ∃ a xs Fs', σ[i]? = some (some (.ref a)) ∧ H a = some (.lst xs) ∧ xs.length = ds.length ∧ En h G (upd H a (.lst (xs ++ [v]))) σ (ρ.set i (.own (.lst (ds ++ [d])))) Fs' := by
  obtain ⟨a, xs, F1, ev, eF, eH, r, na, nd⟩ := E.lst hd
  obtain ⟨E', _⟩ := E.put_lst hd ev eF eH na (r.app (RepL.one q)) (List.nodup_append.mpr ⟨nd, ap.2, fun b hb c hc z => (ap.1 c hc).2.2 i (by rw [eF, ← z]; exact List.mem_cons_of_mem _ hb)⟩) fun b hb => (List.mem_append.mp hb).imp id fun z => ap.1 b z
  exact ⟨a, xs, _, ev, eH, r.length, E'⟩
theorem Apart.later {G : Gd} {H H' : Hp} {σ : L2.St} {ρ : Rho} {Fs : Nat → List Addr} (E : En h G H σ ρ Fs) (k : Keep h H H') {F : List Addr} (fr : ∀ a ∈ F, H a = none ∧ NFrz H' a) (nd : F.Nodup) : Apart G Fs H' F := Apart.of E k fr nd
theorem qappend (ho : PE X o (tVar i)) (he : PE X e (tF h f)) (hbase : attributeBase o "append" X.env (eval o X.env) = eval o X.env := by rfl)
    (hfew : ((backTo cpos (starEach [e] X.env)).all (fun x => !x.1) && (backToKw cpos (keywordEach [] X.env)).all (fun x => x.1.isSome)
      && decide (([e] : List Expr).length + ([] : List Keyword).length + (if ([] : List Keyword).isEmpty then 0 else 1) < 30)) = true := by rfl)
    (hline : (apos.endLine == cpos.line) = true := by rfl) (hst : starEach [e] X.env = (false, eval e X.env) :: starEach [] X.env := by rfl) (hplain : (backTo cpos (starEach [] X.env)).any (·.1) = false := by rfl)
    (hs : swapsWith (.Call (.Attribute o "append" apos) [e] [] cpos) none pos.line X.env = pure false := by rfl) : PS X (.Expr (.Call (.Attribute o "append" apos) [e] [] cpos) pos) (tS h (wApp i f)) :=
  ps_imp (ps_expr (pe_bm PySem.F.plainAttrs_list PySem.F.slot_list_append PySem.F.type_list_append mt_append ho (pa_cons he pa_nil hst) hbase hfew hline hst hplain) hs) fun D σ H w => by
  obtain ⟨G, ρ, Fs, W, E, w, nx, bk, ct, rt⟩ := w
  obtain ⟨ds, hd, w⟩ := ownL_some w
  obtain ⟨a, xs, F1, ev, eF, eH, r, _, _⟩ := E.lst hd
  refine ⟨.ref a, ev, .inl ⟨rfl, xs, .inl (.inl eH)⟩, G, ρ, Fs, _, E, w, fun d wd v H1 F k1 q fr nd => ?_⟩
  have E1 := E.after k1
  obtain ⟨a', ys, Fs', ev', eH', el, E2⟩ := app_sound E1 hd q (Apart.of E k1 fr nd)
  rw [ev] at ev'
  cases ev'
  exact ⟨a, ys, v, rfl, rfl, eH', by rw [el]; exact wd.1, nx _ wd.2 _ _ _ E2⟩
theorem ints_all : ∀ {ds : List D} {ns : List Int}, intsOf ds = some ns → ds = ns.map fun n => .v (.int n)
  | [], ns, e => by cases e; rfl
  | d :: ds, ns, e => by
    unfold intsOf at e
    split at e
    · rename_i heq; cases heq
    · rename_i b ds' heq
      injection heq with h1 h3
      subst h1 h3
      split at e
      · rename_i h2
        cases e
        rw [ints_all h2]
        rfl
      · cases e
    · cases e
theorem immL_ints : ∀ ns : List Int, immL (ns.map fun n => .v (.int n)) = true
  | [] => rfl
  | _ :: ns => immL_ints ns
theorem repL_ints {H : Hp} : ∀ (ns : List Int), RepL h H (ns.map fun n => .v (.int n)) [] (ns.map V.int)
  | [] => ⟨rfl, rfl⟩
  | n :: ns => ⟨[], [], .int n, _, rfl, rfl, ⟨rfl, rfl⟩, repL_ints ns⟩
theorem takes_no {X : Cx} : Takes X fun _ _ _ _ => False := fun u s' q => by
  obtain ⟨a, B, sI, pins, σ, H, cls, d, e, I, nb, up, sky, na, os, ag, w⟩ := q
  exact w.elim
theorem qremove (hc : X.calm = true) (ho : PE X o (tVar i)) (he : PE X e (tP h f)) (hbase : attributeBase o "remove" X.env (eval o X.env) = eval o X.env := by rfl)
    (hfew : ((backTo cpos (starEach [e] X.env)).all (fun x => !x.1) && (backToKw cpos (keywordEach [] X.env)).all (fun x => x.1.isSome)
      && decide (([e] : List Expr).length + ([] : List Keyword).length + (if ([] : List Keyword).isEmpty then 0 else 1) < 30)) = true := by rfl)
    (hline : (apos.endLine == cpos.line) = true := by rfl) (hst : starEach [e] X.env = [(false, eval e X.env)] := by rfl) (hplain : (backTo cpos (starEach [] X.env)).any (·.1) = false := by rfl)
    (hs : swapsWith (.Call (.Attribute o "remove" apos) [e] [] cpos) none pos.line X.env = pure false := by rfl) : PS X (.Expr (.Call (.Attribute o "remove" apos) [e] [] cpos) pos) (tS h (wRem i f)) :=
  ps_imp (ps_expr (pe_remX hc takes_no ho he hbase hfew hline hst hplain) hs) fun D σ H w => by
  obtain ⟨G, ρ, Fs, W, E, w, nx, bk, ct, rt⟩ := w
  obtain ⟨ds, hd, w⟩ := ownL_some w
  obtain ⟨a, xs, F1, ev, eF, eH, r, _, _⟩ := E.lst hd
  refine ⟨.ref a, ev, .inl ⟨rfl, xs, .inl (.inl eH)⟩, G, ρ, Fs, _, E, w, fun d wd v H1 F k1 q np => ?_⟩
  have E1 := E.after k1
  split at wd
  · rename_i k
    split at wd
    · rename_i ns en
      have := ints_all en
      subst this
      obtain ⟨a', ys, F2, ev', eF', eH', r', na, nd⟩ := E1.lst hd
      rw [ev] at ev'
      cases ev'
      have ey := ints_v en r'
      subst ey
      have e0 : F2 = [] := RepL.imm _ _ _ (immL_ints ns) r'
      subst e0
      have E2 := (E1.put_lst (ys := (ns.erase k).map V.int) (F2 := []) hd ev eF' eH' na (repL_ints _) List.nodup_nil fun b hb => (nomatch hb)).1
      exact ⟨a, ns, k, rfl, q.2, eH', fun _ => nx _ wd.2 _ _ _ E2, fun n => absurd wd.1 n⟩
    · exact wd.elim
  · exact wd.elim
end
end PL

namespace PL
open PySem PySem.Spec PyProof.Rows L2

/-! ### dicts walked by their keys -/
theorem pe_orE {X : Cx} {e : Expr} {t u : TE} (p : PE X e t) (q : PE X e u) : PE X e (fun σ H Q => t σ H Q ∨ u σ H Q) := ⟨fun pins s σ H Q I w => w.elim (p.run pins s σ H Q I) (q.run pins s σ H Q I)⟩
section
variable {h : Hd} {H H' : Hp}
mutual
theorem Rep.turn (ht : ∀ z b xs, TupAt H z b xs → TupAt H' z b xs) (hl : ∀ b xs, H b = some (.lst xs) → H' b = some (.lst xs)) (hk : ∀ b kvs, Rd H b (.dK kvs) → Rd H' b (.dK kvs)) (hq : ∀ b kvs, Rd H b (.dT kvs) → Rd H' b (.dT kvs)) : ∀ (d : D) (F : List Addr) (v : V), Rep h H d F v → Rep h H' d F v
  | .v x, F, v, r => r
  | .tup z ds, F, v, r => by
    obtain ⟨a, xs, e1, e2, r⟩ := r
    exact ⟨a, xs, e1, ht _ _ _ e2, RepL.turn ht hl hk hq ds F xs r⟩
  | .lst ds, F, v, r => by
    obtain ⟨a, xs, F1, e1, e2, e3, r⟩ := r
    exact ⟨a, xs, F1, e1, e2, hl _ _ e3, RepL.turn ht hl hk hq ds F1 xs r⟩
  | .dic ks ds, F, v, r => by
    obtain ⟨a, kvs, F1, e1, e2, e3, e4, r⟩ := r
    exact ⟨a, kvs, F1, e1, e2, hk _ _ e3, e4, RepL.turn ht hl hk hq ds F1 _ r⟩
  | .dit ks ds, F, v, r => by
    obtain ⟨a, kvs, F1, e1, e2, e3, e4, r⟩ := r
    exact ⟨a, kvs, F1, e1, e2, hq _ _ e3, e4, RepL.turn ht hl hk hq ds F1 _ r⟩
  | .hand, F, v, r => r
  termination_by structural d => d
theorem RepL.turn (ht : ∀ z b xs, TupAt H z b xs → TupAt H' z b xs) (hl : ∀ b xs, H b = some (.lst xs) → H' b = some (.lst xs)) (hk : ∀ b kvs, Rd H b (.dK kvs) → Rd H' b (.dK kvs)) (hq : ∀ b kvs, Rd H b (.dT kvs) → Rd H' b (.dT kvs)) : ∀ (ds : List D) (F : List Addr) (xs : List V), RepL h H ds F xs → RepL h H' ds F xs
  | [], F, xs, r => r
  | d :: ds, F, xs, r => by
    obtain ⟨F1, F2, x, ys, e1, e2, r1, r2⟩ := r
    exact ⟨F1, F2, x, ys, e1, e2, Rep.turn ht hl hk hq d F1 x r1, RepL.turn ht hl hk hq ds F2 ys r2⟩
  termination_by structural ds => ds
end
section
variable {a : Addr} {od : Obj} {kvs : List (Key × V)}
theorem frz_tup (e : H a = some (.dK kvs)) : ∀ z b xs, TupAt H z b xs → TupAt (upd H a (.frz od (.dK kvs))) z b xs := fun z b xs t => upd_tup e (fun _ z => nomatch z) (fun _ _ z => nomatch z) t
theorem Rep.frz (e : H a = some (.dK kvs)) {d : D} {F : List Addr} {v : V} (r : Rep h H d F v) : Rep h (upd H a (.frz od (.dK kvs))) d F v := by
  refine Rep.turn (frz_tup e) (fun b xs q => ?_) (fun b ls q => ?_) (fun b ls q => ?_) d F v r
  · rw [upd_ne (fun z => by rw [z, e] at q; cases q)]; exact q
  · by_cases z : b = a
    · subst z
      rcases q with q | ⟨o, q⟩
      · rw [e] at q; cases q; exact .inr ⟨od, upd_same⟩
      · rw [e] at q; cases q
    · rcases q with q | ⟨o, q⟩
      · exact .inl (by rw [upd_ne z]; exact q)
      · exact .inr ⟨o, by rw [upd_ne z]; exact q⟩
  · have z : b ≠ a := fun z => by rcases q with q | ⟨o, q⟩ <;> (rw [z, e] at q; cases q)
    rcases q with q | ⟨o, q⟩
    · exact .inl (by rw [upd_ne z]; exact q)
    · exact .inr ⟨o, by rw [upd_ne z]; exact q⟩
theorem unfrz_tup (e : H a = some (.frz od (.dK kvs))) : ∀ z b xs, TupAt H z b xs → TupAt (upd H a (.dK kvs)) z b xs
  | false, b, xs, t => by
    have t : H b = some (.tup xs) := t
    show upd H a _ b = _
    rw [upd_ne (fun z => by rw [z, e] at t; cases t)]; exact t
  | true, b, xs, ⟨o, n, t⟩ => ⟨o, n, by rw [upd_ne (fun z => by rw [z, e] at t; cases t)]; exact t⟩
theorem Rep.unfrz (e : H a = some (.frz od (.dK kvs))) {d : D} {F : List Addr} {v : V} (r : Rep h H d F v) : Rep h (upd H a (.dK kvs)) d F v := by
  refine Rep.turn (unfrz_tup e) (fun b xs q => ?_) (fun b ls q => ?_) (fun b ls q => ?_) d F v r
  · rw [upd_ne (fun z => by rw [z, e] at q; cases q)]; exact q
  · by_cases z : b = a
    · subst z
      rcases q with q | ⟨o, q⟩
      · rw [e] at q; cases q
      · rw [e] at q; cases q; exact .inl upd_same
    · rcases q with q | ⟨o, q⟩
      · exact .inl (by rw [upd_ne z]; exact q)
      · exact .inr ⟨o, by rw [upd_ne z]; exact q⟩
  · have z : b ≠ a := fun z => by rcases q with q | ⟨o, q⟩ <;> (rw [z, e] at q; cases q)
    rcases q with q | ⟨o, q⟩
    · exact .inl (by rw [upd_ne z]; exact q)
    · exact .inr ⟨o, by rw [upd_ne z]; exact q⟩
end
end
section
variable {h : Hd} {G : Gd} {H H' : Hp} {σ : L2.St} {ρ : Rho} {Fs : Nat → List Addr} {a : Addr} {od : Obj} {kvs : List (Key × V)}
theorem HandOk.frz (ho : HandOk h H) (e : H a = some (.dK kvs)) {o : HO} : HandOk h (upd H a o) := by
  obtain ⟨⟨x, e1⟩, y, e2⟩ := ho.there
  exact ho.same (upd_ne (fun z => by rw [z, e] at e1; cases e1)) (upd_ne (fun z => by rw [z, e] at e2; cases e2))
/-- all lent, a dict locked -/
theorem En.borFrz (E : En h G H σ ρ Fs) (e : H a = some (.dK kvs)) : En h ⟨upd H a (.frz od (.dK kvs)), fun _ => none⟩ (upd H a (.frz od (.dK kvs))) σ (PL.borAll ρ) (fun _ => []) where
  keep := Keep.refl _
  hold := fun b x e => nomatch e
  hand := E.hand.frz e
  gp := by obtain ⟨⟨x, e⟩, _⟩ := (E.hand.frz (o := .frz od (.dK kvs)) e).there; exact fun z => by have z : upd H a (.frz od (.dK kvs)) h.p = none := z; rw [e] at z; cases z
  gc := by obtain ⟨_, x, e⟩ := (E.hand.frz (o := .frz od (.dK kvs)) e).there; exact fun z => by have z : upd H a (.frz od (.dK kvs)) h.c = none := z; rw [e] at z; cases z
  qp := rfl
  len := E.borAll.len
  out := fun _ _ => rfl
  dis := fun _ _ _ z => nomatch z
  nod := fun _ => List.nodup_nil
  own := fun _ _ z => nomatch z
  rep := fun i s es => by
    obtain ⟨x, ex, r⟩ := E.borAll.rep i s es
    refine ⟨x, ex, ?_⟩
    unfold PL.borAll at es
    rw [List.getElem?_map] at es
    obtain ⟨s', e1, e2⟩ := Option.map_eq_some_iff.mp es
    have bor : ∀ d, SlOk h ⟨H, fun _ => none⟩ H [] x (.bor d) → SlOk h ⟨upd H a (.frz od (.dK kvs)), fun _ => none⟩ (upd H a (.frz od (.dK kvs))) [] x (.bor d) := fun d r => by
      obtain ⟨e0, v, F1, ev, r, q⟩ := r
      refine ⟨e0, v, F1, ev, Rep.frz e r, fun b hb => ⟨fun z => ?_, (q b hb).2⟩⟩
      have z : upd H a (.frz od (.dK kvs)) b = none := z
      by_cases y : b = a
      · rw [y, upd_same] at z; cases z
      · rw [upd_ne y] at z; exact (q b hb).1 z
    subst e2
    cases s' with
    | no => exact r
    | own d => exact bor d r
    | bor d => exact bor d r
    | lck v d => exact bor d r
theorem lock_post {R : D → Prop} {Q : VK} (ho : HandOk h H) (e : H a = some (.dK kvs)) (c : PostF h H R Q) : PostF h (upd H a (.frz od (.dK kvs))) R (fun v H' => H' a = some (.frz od (.dK kvs)) ∧ Q v (upd H' a (.dK kvs))) := by
  intro d r v H' F k q fr nd
  have np : a ≠ h.p := fun z => by
    obtain ⟨⟨x, e1⟩, _⟩ := ho.there
    rw [← z, e] at e1; cases e1
  have ea : H' a = some (.frz od (.dK kvs)) := k.same a _ upd_same np
  refine ⟨ea, c d r v _ F ⟨fun b x eb n => ?_, fun q => ?_, fun z b xs t => unfrz_tup ea z b xs (k.tup z b xs (frz_tup e z b xs t))⟩ (Rep.unfrz ea q) (fun b hb => ?_) nd⟩
  · by_cases y : b = a
    · subst y; rw [e] at eb; cases eb; exact upd_same
    · rw [upd_ne y]; exact k.same b x (by rw [upd_ne y]; exact eb) n
  · have hk := k.hand (ho.frz e)
    obtain ⟨⟨x, e1⟩, y, e2⟩ := hk.there
    exact hk.same (upd_ne (fun z => by rw [z, ea] at e1; cases e1)) (upd_ne (fun z => by rw [z, ea] at e2; cases e2))
  · have y : b ≠ a := fun z => by have := (fr b hb).1; rw [z, upd_same] at this; cases this
    exact ⟨by have := (fr b hb).1; rw [upd_ne y] at this; exact this, fun o u z => by rw [upd_ne y] at z; exact (fr b hb).2 _ _ z⟩
theorem borAll_twice : PL.borAll (PL.borAll ρ) = PL.borAll ρ := by
  unfold PL.borAll
  rw [List.map_map]
  congr 1
  funext s
  cases s <;> rfl
theorem En.var (E : En h G H σ ρ Fs) {i : Nat} {R : D → Prop} (w : wVar i ρ R) : ∃ d v F, R d ∧ σ[i]? = some (some v) ∧ Rep h H d F v ∧ ∀ a ∈ F, a ≠ h.p := by
  unfold wVar at w
  split at w
  · rename_i d hd
    obtain ⟨x, ex, v, ev, r, _⟩ := E.rep i _ hd
    subst ev
    exact ⟨d, v, _, w, ex, r, fun a ha => E.np ha⟩
  · rename_i d hd
    obtain ⟨x, ex, eF, v, F1, ev, r, q⟩ := E.rep i _ hd
    subst ev
    exact ⟨d, v, F1, w, ex, r, fun a ha => (q a ha).2⟩
  · rename_i v d hd
    obtain ⟨x, ex, eF, ev, F1, r, q⟩ := E.rep i _ hd
    subst ev
    exact ⟨d, v, F1, w, ex, r, fun a ha => (q a ha).2⟩
  · exact w.elim
theorem wk_keys {H1 : Hp} (nd : (kvs.map (·.1)).Nodup) (e : H1 a = some (.frz od (.dK kvs))) : WkF h H1 [a] (Itk a od kvs) ((kvs.map (·.1)).map keyD) where
  go := fun H2 st i d ei => by
    have e2 := st.same a (by simp) _ e
    rw [List.getElem?_map, List.getElem?_map] at ei
    obtain ⟨k, ek, rfl⟩ := Option.map_eq_some_iff.mp ei
    obtain ⟨⟨k', v⟩, ekv, rfl⟩ := Option.map_eq_some_iff.mp ek
    refine ⟨⟨e2, (List.getElem?_eq_some_iff.mp ekv).1⟩, fun x H3 y => ?_⟩
    obtain ⟨rfl, k2, v2, e3, rfl⟩ := y
    rw [ekv] at e3
    cases e3
    refine ⟨Keep.refl _, ?_⟩
    cases k' <;> exact ⟨rfl, rfl⟩
  stop := fun H2 st => ⟨st.same a (by simp) _ e, by simp⟩
end
/-- the walk of a dict by its keys -/
def wKeys (i : Nat) (k : List D → (D → Prop) → Prop) : Rho → (D → Prop) → Prop := fun ρ R => wVar i ρ fun d => match d with
  | .dic ks _ => k (ks.map keyD) R
  | _ => False
def wLcK (i : Nat) (vs : List Nat) (g : WG) (ct : WT) (el : WE) : WE := fun ρ R => wKeys i (fun items R => lcW g ct el (wipeR (borAll ρ) vs) items [] R) ρ R
def wDcK (i : Nat) (vs : List Nat) (g : WG) (ct : WT) (kl vl : WE) : WE := fun ρ R => wKeys i (fun items R => dcW g ct kl vl (wipeR (borAll ρ) vs) items [] [] R) ρ R
section
variable {X : Cx} {h : Hd}
theorem src_keys {G : Gd} {σ : L2.St} {H : Hp} {ρ : Rho} {Fs : Nat → List Addr} {i : Nat} {R : D → Prop} {k : List D → (D → Prop) → Prop} (E : En h G H σ ρ Fs) (w : wKeys i k ρ R) :
    ∃ a kvs, σ[i]? = some (some (.ref a)) ∧ Rd H a (.dK kvs) ∧ (kvs.map (·.1)).Nodup ∧ k ((kvs.map (·.1)).map keyD) R ∧ a ≠ h.p := by
  obtain ⟨d, v, F, w, ev, q, np⟩ := E.var w
  split at w
  · obtain ⟨a, kvs, F1, rfl, eF, e3, ⟨e4, nd⟩, r⟩ := q
    subst e4
    exact ⟨a, kvs, ev, e3, nd, w, np a (by rw [eF]; simp)⟩
  · exact w.elim
theorem plcK {elt tg iter : Expr} {ifs : List Expr} {scope : Scope} {own : List (Str × Nat)} {pos : Pos} {i : Nat} {g : WG} {ct : WT} {el : WE} {is : List Nat} (hc : X.calm = true) (hN : X.N.Nodup) (hi : PE X iter (tVar i)) (ok : BlkOk X.N X.env.scope scope own)
    (hg : ∀ (s : Shared) (H : Hp) (C : Addr) (cl : List (Str × Addr)) (fp : List Addr), PG (X.blk s H scope (compEnvC scope cl C X.env) fp) tg (tG h is g)) (ht : ∀ (s : Shared) (H : Hp) (C : Addr) (cl : List (Str × Addr)) (fp : List Addr), PTs (X.blk s H scope (compEnvC scope cl C X.env) fp) ifs (tT h ct))
    (he : ∀ (s : Shared) (H : Hp) (C : Addr) (cl : List (Str × Addr)) (fp : List Addr), PE (X.blk s H scope (compEnvC scope cl C X.env) fp) elt (tF h el)) (hsub : ∀ i ∈ is, i ∈ own.map (·.2) := by decide) (hs : ∀ x, foldedSetIterable iter X.env x = pure x := by intro _; rfl) :
    PE X (.ListComp elt [⟨tg, iter, ifs, 0⟩] scope pos) (tF h (wLcK i (own.map (·.2)) g ct el)) :=
  have P := pe_lc (pos := pos) hc hN (pi_keys hi) ok hg ht he hs
  pe_imp (pe_orE P (pe_lock P)) fun σ H Q w => by
    obtain ⟨G, ρ, Fs, R, E, w, c⟩ := w
    obtain ⟨a, kvs, ev, e3, nd, w, np⟩ := src_keys E w
    rcases e3 with e3 | ⟨o, e3⟩
    · refine .inr ⟨a, _, e3, trivial, fun od => ?_⟩
      refine ⟨.ref a, ev, a, od, rfl, .inl ⟨kvs, upd_same, ?_⟩⟩
      exact lc_core2 hsub (E.borFrz e3) (lock_post E.hand e3 c) (by rw [borAll_twice]; exact w) (Keep.refl _) (fun b hb => by rw [List.mem_singleton.mp hb]; exact np) (wk_keys nd upd_same)
    · refine .inl ⟨.ref a, ev, a, o, rfl, .inl ⟨kvs, e3, ?_⟩⟩
      exact lc_core2 hsub E c w (Keep.refl _) (fun b hb => by rw [List.mem_singleton.mp hb]; exact np) (wk_keys nd e3)
theorem pdcK {kx vx tg iter : Expr} {ifs : List Expr} {scope : Scope} {own : List (Str × Nat)} {pos : Pos} {i : Nat} {g : WG} {ct : WT} {kl vl : WE} {is : List Nat} (hc : X.calm = true) (hN : X.N.Nodup) (hi : PE X iter (tVar i)) (ok : BlkOk X.N X.env.scope scope own)
    (hg : ∀ (s : Shared) (H : Hp) (C : Addr) (cl : List (Str × Addr)) (fp : List Addr), PG (X.blk s H scope (compEnvC scope cl C X.env) fp) tg (tG h is g)) (ht : ∀ (s : Shared) (H : Hp) (C : Addr) (cl : List (Str × Addr)) (fp : List Addr), PTs (X.blk s H scope (compEnvC scope cl C X.env) fp) ifs (tT h ct))
    (hk : ∀ (s : Shared) (H : Hp) (C : Addr) (cl : List (Str × Addr)) (fp : List Addr), PE (X.blk s H scope (compEnvC scope cl C X.env) fp) kx (tP h kl)) (he : ∀ (s : Shared) (H : Hp) (C : Addr) (cl : List (Str × Addr)) (fp : List Addr), PE (X.blk s H scope (compEnvC scope cl C X.env) fp) vx (tF h vl)) (hsub : ∀ i ∈ is, i ∈ own.map (·.2) := by decide) (hs : ∀ x, foldedSetIterable iter X.env x = pure x := by intro _; rfl) :
    PE X (.DictComp kx vx [⟨tg, iter, ifs, 0⟩] scope pos) (tF h (wDcK i (own.map (·.2)) g ct kl vl)) :=
  have P := pe_dc (pos := pos) hc hN (pi_keys hi) ok hg ht hk he hs
  pe_imp (pe_orE P (pe_lock P)) fun σ H Q w => by
    obtain ⟨G, ρ, Fs, R, E, w, c⟩ := w
    obtain ⟨a, kvs, ev, e3, nd, w, np⟩ := src_keys E w
    rcases e3 with e3 | ⟨o, e3⟩
    · refine .inr ⟨a, _, e3, trivial, fun od => ?_⟩
      refine ⟨.ref a, ev, a, od, rfl, .inl ⟨kvs, upd_same, ?_⟩⟩
      exact dc_core2 hsub (E.borFrz e3) (lock_post E.hand e3 c) (by rw [borAll_twice]; exact w) (Keep.refl _) (fun b hb => by rw [List.mem_singleton.mp hb]; exact np) (wk_keys nd upd_same)
    · refine .inl ⟨.ref a, ev, a, o, rfl, .inl ⟨kvs, e3, ?_⟩⟩
      exact dc_core2 hsub E c w (Keep.refl _) (fun b hb => by rw [List.mem_singleton.mp hb]; exact np) (wk_keys nd e3)
end
end PL

namespace PL
open PySem PySem.Spec PyProof.Rows L2

/-! ### d.update(e) -/
theorem mt_update {X : Cx} : MtR X "dict.update" (fun x vs H Q => ∃ a b kvs more, x = .ref a ∧ vs = [.ref b] ∧ a ≠ b ∧ H a = some (.dK kvs) ∧ H b = some (.dK more) ∧ kvs.length + more.length ≤ sizeLine ∧ Q .non (upd H a (.dK (mergeK kvs more)))) := by
  intro pins s σ H x vs v us Q I rx rv h
  obtain ⟨a, b, kvs, more, rfl, rfl, ne, ha, hb, hl, q⟩ := h
  cases rx
  obtain ⟨u, rfl, ru⟩ := rv.one
  cases ru
  obtain ⟨z, hd, ws, rel, dd⟩ := dk_of I.hok ha
  obtain ⟨z2, hd2, ws2, rel2, dd2⟩ := dk_of I.hok hb
  refine call_meetsIn PySem.F.slot_dict_update dd.typeIs PySem.F.entry_dict_update (PySem.F.args_dict_update_2 _ _) (meets_dict_update (mixKind X.prog X.w) a b ne hd2)
    ⟨ws, ws2, dd, dd2, (by rw [← rel.length, ← rel2.length]; exact hl), fun h' hmm _ hs => ?_⟩
  have he : ∃ q, h'.get? a = some q := let ⟨q, _, _, hq, _⟩ := hmm; ⟨q, hq⟩
  have hz : (mergeK kvs more).length ≤ sizeLine := by
    have h1 := length_mergeK more kvs
    omega
  exact ⟨.non, _, d_write (t' := s.toks) I (by rw [ha]; exact True.intro) hs he (dk_new hz hd (rel2.merge rel) hmm), rfl, q⟩
theorem zip_rep {h : Hd} {H : Hp} : ∀ {more : List (Key × V)} {ds : List D}, RepL h H ds [] (more.map (·.2)) → Paired (fun (p : Key × D) (q : Key × V) => p.1 = q.1 ∧ Rep h H p.2 [] q.2) ((more.map (·.1)).zip ds) more
  | [], [], _ => .nil
  | [], d :: ds, r => by obtain ⟨_, _, _, _, _, e, _⟩ := r; cases e
  | p :: more, [], r => by have := r.2; cases this
  | p :: more, d :: ds, r => by
    obtain ⟨F1, F2, x, ys, eF, ex, r1, r2⟩ := r
    obtain ⟨f1, f2⟩ := List.append_eq_nil_iff.mp eF.symm
    subst f1 f2
    rw [List.map_cons] at ex
    injection ex with e1 e2
    subst e1 e2
    exact .cons ⟨rfl, r1⟩ (zip_rep r2)
section
variable {X : Cx} {o e k : Expr} {es : List Expr} {apos cpos pos : Pos} {h : Hd} {f : WE} {i j : Nat}
theorem qupdate (ho : PE X o (tVar i)) (he : PE X e (tF h f)) (hbase : attributeBase o "update" X.env (eval o X.env) = eval o X.env := by rfl)
    (hfew : ((backTo cpos (starEach [e] X.env)).all (fun x => !x.1) && (backToKw cpos (keywordEach [] X.env)).all (fun x => x.1.isSome)
      && decide (([e] : List Expr).length + ([] : List Keyword).length + (if ([] : List Keyword).isEmpty then 0 else 1) < 30)) = true := by rfl)
    (hline : (apos.endLine == cpos.line) = true := by rfl) (hst : starEach [e] X.env = (false, eval e X.env) :: starEach [] X.env := by rfl) (hplain : (backTo cpos (starEach [] X.env)).any (·.1) = false := by rfl)
    (hs : swapsWith (.Call (.Attribute o "update" apos) [e] [] cpos) none pos.line X.env = pure false := by rfl) : PS X (.Expr (.Call (.Attribute o "update" apos) [e] [] cpos) pos) (tS h (wUpd i f)) :=
  ps_imp (ps_expr (pe_bm PySem.F.plainAttrs_dict PySem.F.slot_dict_update PySem.F.type_dict_update mt_update ho (pa_cons he pa_nil hst) hbase hfew hline hst hplain) hs) fun D σ H w => by
  obtain ⟨G, ρ, Fs, W, E, w, nx, bk, ct, rt⟩ := w
  obtain ⟨ks, ds, hd, w⟩ := ownK_some w
  obtain ⟨a, kvs, F1, ev, eF, eH, e4, r, _, _⟩ := E.dic hd
  refine ⟨.ref a, ev, .inr (.inr (.inl ⟨rfl, .inl ⟨kvs, eH⟩⟩)), G, ρ, Fs, _, E, w, fun d wd v H1 F k1 q fr nd => ?_⟩
  have E1 := E.after k1
  split at wd
  · rename_i ks2 ds2
    obtain ⟨im, im2, hl, wd⟩ := wd
    obtain ⟨b, more, F2, rfl, eF2, e3, ⟨e5, nd2⟩, r2⟩ := q
    have := RepL.imm _ _ _ im2 r2
    subst this
    have hb : H1 b = some (.dK more) := by
      rcases e3 with e3 | ⟨o, e3⟩
      · exact e3
      · exact absurd e3 ((fr b (by rw [eF2]; simp)).2 _ _)
    have ne : a ≠ b := fun z => by
      have := (fr b (by rw [eF2]; simp)).1
      rw [← z, eH] at this; cases this
    obtain ⟨a', kvs', F3, ev', eF', eH', ⟨e6, nk⟩, r', na, nd'⟩ := E1.dic hd
    rw [ev] at ev'
    cases ev'
    have := RepL.imm _ _ _ im r'
    subst this
    subst e6 e5
    obtain ⟨⟨m1, m2⟩, m3⟩ := mergeD_rep (zip_rep r2) nk r'
    have E2 := (E1.put_dic (F2 := []) hd ev eF' eH' na ⟨m1, m1 ▸ m2⟩ m3 List.nodup_nil fun b hb => nomatch hb).1
    exact ⟨a, b, kvs', more, rfl, rfl, ne, eH', hb, (by rw [List.length_map, List.length_map] at hl; exact hl), nx _ wd _ _ _ E2⟩
  · exact wd.elim
/-- o.append(p.pop(e)) -/
theorem qapppop {o2 k2 : Expr} {ap2 cp2 : Pos} (ho : PE X o (tVar i)) (ho2 : PE X o2 (tVar j)) (he : PE X k2 (tP h f)) (hbase : attributeBase o "append" X.env (eval o X.env) = eval o X.env := by rfl) (hbase2 : attributeBase o2 "pop" X.env (eval o2 X.env) = eval o2 X.env := by rfl)
    (hfew : ((backTo cpos (starEach [.Call (.Attribute o2 "pop" ap2) [k2] [] cp2] X.env)).all (fun x => !x.1) && (backToKw cpos (keywordEach [] X.env)).all (fun x => x.1.isSome)
      && decide (([.Call (.Attribute o2 "pop" ap2) [k2] [] cp2] : List Expr).length + ([] : List Keyword).length + (if ([] : List Keyword).isEmpty then 0 else 1) < 30)) = true := by rfl)
    (hfew2 : ((backTo cp2 (starEach [k2] X.env)).all (fun x => !x.1) && (backToKw cp2 (keywordEach [] X.env)).all (fun x => x.1.isSome)
      && decide (([k2] : List Expr).length + ([] : List Keyword).length + (if ([] : List Keyword).isEmpty then 0 else 1) < 30)) = true := by rfl)
    (hline : (apos.endLine == cpos.line) = true := by rfl) (hline2 : (ap2.endLine == cp2.line) = true := by rfl) (hst : starEach [.Call (.Attribute o2 "pop" ap2) [k2] [] cp2] X.env = (false, eval (.Call (.Attribute o2 "pop" ap2) [k2] [] cp2) X.env) :: starEach [] X.env := by rfl)
    (hst2 : starEach [k2] X.env = (false, eval k2 X.env) :: starEach [] X.env := by rfl) (hplain : (backTo cpos (starEach [] X.env)).any (·.1) = false := by rfl) (hplain2 : (backTo cp2 (starEach [] X.env)).any (·.1) = false := by rfl)
    (hs : swapsWith (.Call (.Attribute o "append" apos) [.Call (.Attribute o2 "pop" ap2) [k2] [] cp2] [] cpos) none pos.line X.env = pure false := by rfl) :
    PS X (.Expr (.Call (.Attribute o "append" apos) [.Call (.Attribute o2 "pop" ap2) [k2] [] cp2] [] cpos) pos) (tS h (wAppPop i j f)) :=
  ps_imp (ps_expr (pe_bm PySem.F.plainAttrs_list PySem.F.slot_list_append PySem.F.type_list_append mt_append ho (pa_cons (pe_bm PySem.F.plainAttrs_list PySem.F.slot_list_pop PySem.F.type_list_pop mt_popAt ho2 (pa_cons he pa_nil hst2) hbase2 hfew2 hline2 hst2 hplain2) pa_nil hst) hbase hfew hline hst hplain) hs) fun D σ H w => by
  obtain ⟨G, ρ, Fs, W, E, w, nx, bk, ct, rt⟩ := w
  obtain ⟨ds, hd, w⟩ := ownL_some w
  obtain ⟨es, hd2, hij, w⟩ := ownL_some w
  obtain ⟨a, xs, F1, ev, eF, eH, r, na, nd⟩ := E.lst hd
  obtain ⟨b, ys, F2, ev2, eF2, eH2, r2, nb, nd2⟩ := E.lst hd2
  refine ⟨.ref a, ev, .inl ⟨rfl, xs, .inl (.inl eH)⟩, .ref b, ev2, .inl ⟨rfl, ys, .inl (.inl eH2)⟩, G, ρ, Fs, _, E, w, fun d wd v H1 F k1 q np => ?_⟩
  have E1 := E.after k1
  split at wd
  · rename_i n
    obtain ⟨n1, n2, im, hl, wd⟩ := wd
    split at wd
    · rename_i m em
      split at wd
      · rename_i x ex
        obtain ⟨b', ys', F3, ev3, eF3, eH3, r3, nb3, nd3⟩ := E1.lst hd2
        rw [ev2] at ev3
        cases ev3
        have := RepL.imm _ _ _ im r3
        subst this
        obtain ⟨F4, y, ey, ry, sub⟩ := r3.get ex
        have : F4 = [] := List.sublist_nil.mp sub
        subst this
        have er : ∀ {ds : List PL.D} {xs : List V} (m : Nat), RepL h H1 ds [] xs → RepL h H1 (ds.eraseIdx m) [] (xs.eraseIdx m) := by
          intro ds
          induction ds with
          | nil => intro xs m r; rw [r.2]; exact ⟨rfl, rfl⟩
          | cons d ds ih =>
            intro xs m r
            obtain ⟨G1, G2, x, ys, eG, ex, r1, r2⟩ := r
            obtain ⟨f1, f2⟩ := List.append_eq_nil_iff.mp eG.symm
            subst f1 f2
            subst ex
            cases m with
            | zero => exact r2
            | succ m => exact ⟨[], [], x, _, rfl, rfl, r1, ih m r2⟩
        obtain ⟨E2, tp⟩ := E1.put_lst (F2 := []) (ys := ys'.eraseIdx m) hd2 ev2 eF3 eH3 nb3 (er m r3) List.nodup_nil fun b hb => nomatch hb
        have hd' : (ρ.set j (.own (.lst (es.eraseIdx m))))[i]? = some (.own (.lst ds)) := by rw [List.getElem?_set_ne hij.symm]; exact hd
        obtain ⟨a', xs', Fs', ev4, eH4, el4, E4⟩ := app_sound E2 hd' (rep_mono tp ry) Apart.nil
        rw [ev] at ev4
        cases ev4
        exact ⟨b, ys', n, m, y, rfl, by rw [q.2], eH3, n1, n2, by rw [r3.length]; exact em, ey, a, xs', y, rfl, rfl, eH4, by rw [el4]; exact hl, nx _ wd _ _ _ E4⟩
      · exact wd.elim
    · exact wd.elim
  · exact wd.elim
end

/-! ### list(range(..)) -/
def wLRg1 (f : WE) : WE := fun ρ R => f ρ fun d => match d with
  | .v (.int n) => RgOk 0 n ∧ R (.lst (rngD 0 n.toNat))
  | _ => False
def wLRg2 (f g : WE) : WE := fun ρ R => f ρ fun d => g ρ fun e => match d, e with
  | .v (.int i), .v (.int j) => RgOk i j ∧ R (.lst (rngD i (j - i).toNat))
  | _, _ => False
theorem repL_rng {h : Hd} {H : Hp} {lo : Int} : ∀ (l : List Nat), RepL h H (l.map fun (i : Nat) => .v (.int (lo + i))) [] (l.map fun (i : Nat) => V.int (lo + i))
  | [] => ⟨rfl, rfl⟩
  | i :: l => ⟨[], [], _, _, rfl, rfl, ⟨rfl, rfl⟩, repL_rng l⟩
section
variable {X : Cx} {a b : Expr} {p p2 pos pos2 : Pos} {h : Hd} {f g : WE}
theorem plrg1 (hc : X.calm = true) (hgl : Gl X "list") (hml : X.mg "list" = none) (hg : Gl X "range") (hm : X.mg "range" = none) (ha : PE X a (tP h f)) (na : starEach [a] X.env = (false, eval a X.env) :: starEach [] X.env := by rfl)
    (nb : starEach [.Call (.Name "range" p) [a] [] pos] X.env = (false, eval (.Call (.Name "range" p) [a] [] pos) X.env) :: starEach [] X.env := by rfl) : PE X (.Call (.Name "list" p2) [.Call (.Name "range" p) [a] [] pos] [] pos2) (tF h (wLRg1 f)) :=
  pe_imp (pe_listRg hc hgl hml (prg_1 hg hm ha na) nb) fun σ H Q w => by
    obtain ⟨G, ρ, Fs, R, E, w, c⟩ := w
    refine ⟨G, ρ, Fs, _, E, w, fun d wd v H1 F k1 q np => ?_⟩
    split at wd
    · rename_i n
      refine ⟨n, q.2, wd.1, fun l nl => ?_⟩
      have := (PostF.back k1 E.hand c).lst wd.2 (xs := rgV 0 n) (by unfold rgV rngD; rw [Int.sub_zero]; exact repL_rng _) l nl
      exact this
    · exact wd.elim
theorem plrg2 (hc : X.calm = true) (hgl : Gl X "list") (hml : X.mg "list" = none) (hg : Gl X "range") (hm : X.mg "range" = none) (ha : PE X a (tP h f)) (hb : PE X b (tP h g)) (na : starEach [a, b] X.env = (false, eval a X.env) :: starEach [b] X.env := by rfl) (na2 : starEach [b] X.env = (false, eval b X.env) :: starEach [] X.env := by rfl)
    (hp : (backTo pos (starEach [b] X.env)).any (·.1) = false := by rfl) (nb : starEach [.Call (.Name "range" p) [a, b] [] pos] X.env = (false, eval (.Call (.Name "range" p) [a, b] [] pos) X.env) :: starEach [] X.env := by rfl) : PE X (.Call (.Name "list" p2) [.Call (.Name "range" p) [a, b] [] pos] [] pos2) (tF h (wLRg2 f g)) :=
  pe_imp (pe_listRg hc hgl hml (prg_2 hg hm ha hb na na2 hp) nb) fun σ H Q w => by
    obtain ⟨G, ρ, Fs, R, E, w, c⟩ := w
    refine ⟨G, ρ, Fs, _, E, w, fun d wd v H1 F k1 q np => ⟨G, ρ, Fs, _, E.after k1, wd, fun d2 wd2 v2 H2 F2 k2 q2 np2 => ?_⟩⟩
    split at wd2
    · rename_i i j
      refine ⟨i, j, q.2, q2.2, wd2.1, fun l nl => ?_⟩
      exact (PostF.back (k1.trans k2) E.hand c).lst wd2.2 (xs := rgV i j) (repL_rng _) l nl
    · exact wd2.elim
end

/-! ### text[::-1], list[::-1] -/
def revS (x : Str) : Str := ⟨x.cps.toList.reverse.toArray⟩
def kRevS : D → (D → Prop) → Prop
  | .v (.str x), R => x.length ≤ sizeLine ∧ R (.v (.str (revS x)))
  | _, _ => False
def kRevL : D → (D → Prop) → Prop
  | .lst ds, R => immL ds = true ∧ R (.lst ds.reverse)
  | _, _ => False
theorem picked_rev (x : Str) : ((slicePicked x none none (some (-1, t))).filterMap (x.cps[·]?)) = x.cps.toList.reverse := by
  have e : slicePicked x none none (some (-1, t)) = sliceRange ((x.length : Int) - 1) (-1) (-1) := rfl
  rw [e, PySem.W.krv_sliceRange, PySem.W.krv_range, List.filterMap_reverse]
  exact congrArg List.reverse (PySem.W.krv_all x.cps)
theorem picked_len (x : Str) : (((some ((-1 : Int), t) : Option (Int × Tok)).map (·.1)).getD 1 == 1 && (slicePicked x none none (some (-1, t))).length == x.length) = false := rfl
section
variable {X : Cx} {e : Expr} {k : Nat} {p1 p2 p3 pos : Pos} {h : Hd} {f : WE}
/-- x[::-1] of a text -/
def tRevS (te : TE) : TE := fun σ H Q => te σ H fun x H1 => ∃ z : Str, x = .str z ∧ z.length ≤ sizeLine ∧ Q (.str (revS z)) H1
theorem pe_revS {te : TE} (he : PE X e te) : PE X (.Subscript e (.Slice none none (some (.UnaryOp .USub (.Constant (.int 1) k p1) p2)) p3) pos) (tRevS te) := by
  refine ⟨fun pins s σ H Q I h => ?_⟩
  refine Subscript_ (thn (he.run pins s σ H _ I h) fun v s1 ⟨x, H1, I1, r1, q1⟩ => ?_)
  obtain ⟨z, ex, hz, q⟩ := q1
  subst ex
  obtain ⟨tz, rfl⟩ := r1
  have hst : PO X (some (.UnaryOp .USub (.Constant (.int 1) k p1) p2)) (tPart (tUn (rU fun i => .int (-i)) (tC (.int 1)))) := po_some (pe_un un_neg pe_int)
  refine wpAny_Slice (thn (po_none.run pins s1 σ H1 (fun o H2 => o = none ∧ H2 = H1) I1 ⟨rfl, rfl⟩) fun vl s2 ⟨l, H2, I2, pl, el, e2⟩ => ?_)
  subst el e2
  refine thn (po_none.run pins s2 σ H2 (fun o H3 => o = none ∧ H3 = H2) I2 ⟨rfl, rfl⟩) fun vu s3 ⟨u, H3, I3, pu, eu, e3⟩ => ?_
  subst eu e3
  refine thn (hst.run pins s3 σ H3 (fun o H4 => o = some (-1) ∧ H4 = H3) I3 ⟨1, rfl, -1, rfl, rfl, rfl⟩) fun vs s4 ⟨o, H4, I4, ps, eo, e4⟩ => ?_
  subst eo e4
  have I5 : Inv X pins σ H4 { s4 with heap := s4.heap.push { cls := .type "slice", data := .fields #[vl, vu, vs] } } := I4.kept (t' := s4.toks) fun b ob q => Heap.get?_push_of_some _ q
  show wpAny (model X.prog X.w) X.A (subscriptTail e (.Slice none none (some (.UnaryOp .USub (.Constant (.int 1) k p1) p2)) p3) (.str z tz) (.ref s4.heap.objs.size)) (EP X pins σ Q) X.xe { s4 with heap := s4.heap.push { cls := .type "slice", data := .fields #[vl, vu, vs] } }
  refine tail_any (ops := [.str z tz, .ref s4.heap.objs.size]) (typeIs_str _ z tz) (PySem.F.slot_str_getitem.lookup) ?_ (by with_unfolding_all rfl)
  cases pl
  cases pu
  cases ps with
  | int _ t =>
    refine wpAny_getItem_str_slice (l := none) (u := none) (st := some (-1, t)) ⟨_, Heap.get?_push_size _ rfl, rfl, rfl⟩ rfl ?_
    unfold sliceMade
    rw [picked_len, if_neg Bool.false_ne_true]
    rw [picked_rev]
    refine ⟨?_, .str (revS z), H4, I5.tok _, ⟨_, rfl⟩, q⟩
    show z.cps.toList.reverse.toArray.size ≤ _
    rw [List.size_toArray, List.length_reverse, Array.length_toList]
    exact hz
theorem prevS (he : PE X e (tP h f)) : PE X (.Subscript e (.Slice none none (some (.UnaryOp .USub (.Constant (.int 1) k p1) p2)) p3) pos) (tF h (wU kRevS f)) :=
  pe_imp (pe_revS he) fun σ H Q w => by
    obtain ⟨G, ρ, Fs, R, E, w, c⟩ := w
    refine ⟨G, ρ, Fs, _, E, w, fun d wd v H1 F k1 q np => ?_⟩
    unfold kRevS at wd
    split at wd
    · exact ⟨_, q.2, wd.1, (PostF.back k1 E.hand c).atom wd.2⟩
    · exact wd.elim
theorem repL_rev {H : Hp} : ∀ {ds : List D} {xs : List V}, RepL h H ds [] xs → RepL h H ds.reverse [] xs.reverse
  | [], xs, r => by rw [r.2]; exact ⟨rfl, rfl⟩
  | d :: ds, xs, r => by
    obtain ⟨F1, F2, x, ys, eF, ex, r1, r2⟩ := r
    obtain ⟨f1, f2⟩ := List.append_eq_nil_iff.mp eF.symm
    subst f1 f2
    rw [ex, List.reverse_cons, List.reverse_cons]
    exact (repL_rev r2).app (RepL.one r1)
theorem prevL (he : PE X e (tP h f)) : PE X (.Subscript e (.Slice none none (some (.UnaryOp .USub (.Constant (.int 1) k p1) p2)) p3) pos) (tF h (wU kRevL f)) :=
  pe_imp (pe_revL he) fun σ H Q w => by
    obtain ⟨G, ρ, Fs, R, E, w, c⟩ := w
    refine ⟨G, ρ, Fs, _, E, w, fun d wd v H1 F k1 q np => ?_⟩
    unfold kRevL at wd
    split at wd
    · obtain ⟨a, xs, F1, rfl, _, e3, r⟩ := q
      have := RepL.imm _ _ _ wd.1 r
      subst this
      exact ⟨a, xs, rfl, .inl (.inl e3), fun p n => (PostF.back k1 E.hand c).lst wd.2 (repL_rev r) p n⟩
    · exact wd.elim
end

/-! ### tuple(list): a tuple whose very object is known -/
def kTupZ : List D → (D → Prop) → Prop
  | [.lst ds], R => immL ds = true ∧ R (.tup true ds)
  | _, _ => False
section
variable {X : Cx} {h : Hd}
theorem rep_l_new {H : Hp} {ds : List D} {xs : List V} {a : Addr} {o : HO} (r : RepL h H ds [] xs) (n : H a = none) : RepL h (upd H a o) ds [] xs := r.keep (Keep.new n) (fun _ z => nomatch z)
theorem x_tupZ : SndX X h (.type "tuple") kTupZ := by
  intro pins s σ H R Q ds F vs us I ho w q np rv c
  unfold kTupZ at w
  split at w
  · obtain ⟨v, rfl, a, xs, F1, rfl, _, e3, r⟩ := repL1 q
    have := RepL.imm _ _ _ w.1 r
    subst this
    obtain ⟨u, rfl, ru⟩ := vals1 rv
    cases ru
    obtain ⟨its, rv, pl, hz⟩ := I.list (.inl (.inl e3))
    refine call_tuple_list pl.isList (fun h' hk => ?_) (by rw [List.size_toArray, ← rv.length]; exact hz)
    have I1 : Inv X pins σ H { s with heap := h' } := I.kept (t' := s.toks) hk
    have n := I1.hok.fresh (Nat.le_refl h'.objs.size)
    have I2 : Inv X pins σ (upd H h'.objs.size (.frz { cls := .type "tuple", data := .seq its.toArray } (.tup xs))) { s with heap := h'.push { cls := .type "tuple", data := .seq its.toArray } } :=
      I1.laid (t' := s.toks) (fun b o e => Heap.get?_push_of_some _ e) (Nat.le_refl _) (show ObjOk X.prog X.w _ _ _ (.frz _ (.tup xs)) from ⟨Heap.get?_push_size _ rfl, hz, its, rv, IsTup.new _ _⟩)
    exact ⟨.ref h'.objs.size, _, I2, rfl, c _ w.2 _ _ [] (Keep.new n) ⟨_, xs, rfl, ⟨_, rfl, upd_same⟩, rep_l_new r n⟩ (fun _ z => nomatch z) List.nodup_nil⟩
  · exact w.elim
/-- t.index(k) of texts, t's object known, k there -/
def kIndex (x y : D) (R : D → Prop) : Prop := match x, y with
  | .tup true ds, .v (.str k) => match strsOf ds with
    | some ys => k ∈ ys ∧ R (.v (.int (ys.idxOf k : Nat)))
    | none => False
  | _, _ => False
def wIndexT (fo fe : WE) : WE := fun ρ R => fo ρ fun x => (match x with | .tup true _ => True | _ => False) ∧ fe ρ fun y => kIndex x y R
variable {o e : Expr} {apos cpos : Pos} {fo fe : WE}
theorem pindexT (ho : PE X o (tP h fo)) (he : PE X e (tP h fe)) (hbase : attributeBase o "index" X.env (eval o X.env) = eval o X.env := by rfl)
    (hfew : ((backTo cpos (starEach [e] X.env)).all (fun x => !x.1) && (backToKw cpos (keywordEach [] X.env)).all (fun x => x.1.isSome)
      && decide (([e] : List Expr).length + ([] : List Keyword).length + (if ([] : List Keyword).isEmpty then 0 else 1) < 30)) = true := by rfl)
    (hline : (apos.endLine == cpos.line) = true := by rfl) (hs : starEach [e] X.env = (false, eval e X.env) :: starEach [] X.env := by rfl) (hplain : (backTo cpos (starEach [] X.env)).any (·.1) = false := by rfl) :
    PE X (.Call (.Attribute o "index" apos) [e] [] cpos) (tF h (wIndexT fo fe)) := by
  refine ⟨fun pins s σ H Q I w => ?_⟩
  obtain ⟨G, ρ, Fs, R, E, w, c⟩ := w
  refine wpAny_Call_method_late hbase hfew hline rfl (thn (ho.run pins s σ H (fun x H1 => ∃ d F, Keep h H H1 ∧ Rep h H1 d F x ∧ (∀ a ∈ F, a ≠ h.p) ∧ (match d with | .tup true _ => True | _ => False) ∧ fe ρ fun y => kIndex d y R) I
    ⟨G, ρ, Fs, _, E, w, fun d wd v H1 F k1 q np => ⟨d, F, k1, q, np, wd.1, wd.2⟩⟩) fun v s1 ⟨x, H1, I1, r1, d, F, k1, q, np, wt, wd⟩ => ?_)
  have E1 := E.after k1
  split at wt
  rotate_left
  · exact wt.elim
  rename_i ds
  obtain ⟨a, xs, rfl, ⟨ob, dn, e3⟩, r⟩ := q
  cases (show v = Value.ref a from r1)
  obtain ⟨eo, _, its, rv, ht⟩ := I1.hok a _ e3
  have ty : s1.TypeIs (.ref a) "tuple" := ht.typeIs
  refine ⟨"tuple", _, PySem.F.plainAttrs_tuple, PySem.F.slot_tuple_index, PySem.F.type_tuple_index, ty, fun b eb => by cases eb; exact ⟨ob, eo, dn⟩, ?_⟩
  rw [hs]
  refine Calls.callWith_builtin (by show (false || (backTo cpos (starEach [] X.env)).any (·.1)) = false; rw [hplain] <;> rfl) (Calls.evalArgs_plain ?_)
  show wpAny _ _ (spliced ((false, eval e X.env) :: backTo cpos (starEach [] X.env))) _ _ s1
  refine Calls.spliced_cons (thn (he.run pins s1 σ H1 (fun y H2 => ∃ d2 F2, Keep h H1 H2 ∧ Rep h H2 d2 F2 y ∧ kIndex (.tup true ds) d2 R) I1 ⟨G, ρ, Fs, _, E1, wd, fun d2 wd2 v2 H2 F2 k2 q2 np2 => ⟨d2, F2, k2, q2, wd2⟩⟩) fun u s2 ⟨y, H2, I2, ry, d2, F2, k2, q2, wd2⟩ => ?_)
  refine Calls.spliced_nil ?_
  unfold kIndex at wd2
  split at wd2
  rotate_left
  · exact wd2.elim
  rename_i ds' kk heq
  injection heq with h1 h2
  subst h2
  split at wd2
  rotate_left
  · exact wd2.elim
  rename_i ys es
  have e3' := k2.tup true a xs ⟨ob, dn, e3⟩
  obtain ⟨ob2, _, e4⟩ := e3'
  obtain ⟨eo2, _, its2, rv2, ht2⟩ := I2.hok a _ e4
  rw [strs_v es r] at rv2
  obtain ⟨t, rfl⟩ := (show ∃ t, u = Value.str kk t by rw [q2.2] at ry; exact ry)
  refine PySem.SeqAt.tuple_index_strs ht2 (strsAre_of rv2) wd2.1 ?_
  exact ⟨.int (ys.idxOf kk : Nat), H2, I2.tok _, ⟨_, rfl⟩, (PostF.back (k1.trans k2) E.hand c).atom wd2.2⟩
end
end PL

namespace PL
open PySem PySem.Spec PyProof.Rows L2

/-! ### dict displays -/
def pairsW : List (WE × WE) → Rho → (List (D × D) → Prop) → Prop
  | [], _, K => K []
  | (fk, fv) :: r, ρ, K => fk ρ fun x => x.imm = true ∧ fv ρ fun y => y.imm = true ∧ pairsW r ρ fun ps => K ((x, y) :: ps)
def keyedD : List (D × D) → Option (List (Key × D))
  | [] => some []
  | (x, y) :: ps => match x.key, keyedD ps with
    | some k, some kds => some ((k, y) :: kds)
    | _, _ => none
def wDisp (trs : List (WE × WE)) : WE := fun ρ R => pairsW trs ρ fun ps => match keyedD ps with
  | some kds => R (.dic (mergeD [] [] kds).1 (mergeD [] [] kds).2)
  | none => False
section
variable {h : Hd} {G : Gd} {σ : L2.St} {ρ : Rho} {Fs : Nat → List Addr}
abbrev RepPs (h : Hd) (H : Hp) : List (D × D) → List (V × V) → Prop := Paired fun p q => Rep h H p.1 [] q.1 ∧ Rep h H p.2 [] q.2
theorem repPs_keep {H H' : Hp} (k : Keep h H H') {ps : List (D × D)} {vs : List (V × V)} (r : RepPs h H ps vs) : RepPs h H' ps vs := by
  induction r with
  | nil => exact .nil
  | cons a t ih => exact .cons ⟨rep_mono k.tup a.1, rep_mono k.tup a.2⟩ ih
theorem tPairs_P : ∀ {trs : List (WE × WE)} {H : Hp} {K : List (D × D) → Prop} {Q : List (V × V) → Hp → Prop}, En h G H σ ρ Fs → pairsW trs ρ K → (∀ ps, K ps → ps.length = trs.length → ∀ vs H', Keep h H H' → RepPs h H' ps vs → Q vs H') → tPairs (trs.map fun t => (tP h t.1, tP h t.2)) σ H Q
  | [], H, K, Q, E, w, c => c [] w rfl [] H (Keep.refl H) .nil
  | (fk, fv) :: r, H, K, Q, E, w, c => by
    refine ⟨G, ρ, Fs, _, E, w, fun x wx v H1 F1 k1 q1 np1 => ?_⟩
    have := Rep.imm _ _ _ wx.1 q1
    subst this
    refine ⟨G, ρ, Fs, _, E.after k1, wx.2, fun y wy v2 H2 F2 k2 q2 np2 => ?_⟩
    have := Rep.imm _ _ _ wy.1 q2
    subst this
    refine tPairs_P ((E.after k1).after k2) wy.2 fun ps wp el vs H3 k3 rp => ?_
    exact c _ wp (by rw [List.length_cons, List.length_cons, el]) _ H3 (k1.trans (k2.trans k3)) (.cons ⟨rep_mono (k2.trans k3).tup q1, rep_mono k3.tup q2⟩ rp)
theorem keyed_rep {H : Hp} : ∀ {ps : List (D × D)} {vs : List (V × V)} {kds : List (Key × D)}, keyedD ps = some kds → RepPs h H ps vs → ∃ kvs : List (Key × V), vs = kvs.map (fun kv => (kV kv.1, kv.2)) ∧ Paired (fun (p : Key × D) (q : Key × V) => p.1 = q.1 ∧ Rep h H p.2 [] q.2) kds kvs ∧ kvs.length = ps.length
  | [], _, kds, e, .nil => by cases e; exact ⟨[], rfl, .nil, rfl⟩
  | (x, y) :: ps, (v, u) :: vs, kds, e, .cons a t => by
    unfold keyedD at e
    split at e
    · rename_i k kds' ek e2
      cases e
      obtain ⟨kvs, g1, g2, g3⟩ := keyed_rep e2 t
      refine ⟨(k, u) :: kvs, ?_, .cons ⟨rfl, a.2⟩ g2, by rw [List.length_cons, List.length_cons, g3]⟩
      rw [List.map_cons, ← g1, ← key_v ek a.1]
    · cases e
end
section
variable {X : Cx} {h : Hd} {pos : Pos} {keys : List (Option Expr)} {values : List Expr} {trs : List (WE × WE)}
structure PPsW (X : Cx) (h : Hd) (pos : Pos) (keys : List (Option Expr)) (values : List Expr) (trs : List (WE × WE)) : Prop where
  p : PPs X pos keys values (trs.map fun t => (tP h t.1, tP h t.2))
theorem ppw_nil : PPsW X h pos [] [] [] := ⟨pps_nil⟩
theorem ppw_cons {k v : Expr} {fk fv : WE} (hk : PE X k (tP h fk)) (hv : PE X v (tP h fv)) (hr : PPsW X h pos keys values trs) : PPsW X h pos (some k :: keys) (v :: values) ((fk, fv) :: trs) := ⟨pps_cons hk hv hr.p⟩
theorem pdisp (p : PPsW X h pos keys values trs) (hall : keys.all (·.isSome) = true) (hl : keys.length = values.length) (h0 : keys ≠ []) (h15 : keys.length ≤ 15) (hn : trs.length = keys.length) : PE X (.Dict keys values pos) (tF h (wDisp trs)) :=
  pe_imp (pe_disp p.p hall hl h0 h15) fun σ H Q w => by
    obtain ⟨G, ρ, Fs, R, E, w, c⟩ := w
    intro a na
    have E1 := E.after (Keep.new (o := .dK []) na)
    have np : a ≠ h.p := np_of E.hand na
    refine tPairs_P E1 w fun ps wp el vs H2 k2 rp => ?_
    split at wp
    · rename_i kds ek
      obtain ⟨kvs, rfl, g2, g3⟩ := keyed_rep ek rp
      have ea : H2 a = some (.dK []) := k2.same a _ upd_same np
      refine ⟨ea, kvs, rfl, by rw [g3, el, hn]; exact h15, ?_⟩
      obtain ⟨⟨m1, m2⟩, m3⟩ := mergeD_rep (kvs := []) (ds := []) g2 List.nodup_nil ⟨rfl, rfl⟩
      have kk : Keep h H (upd H2 a (.dK (mergeK [] kvs))) := by
        have hp : H h.p ≠ none := by obtain ⟨⟨x, e⟩, _⟩ := E.hand.there; exact fun z => by rw [e] at z; cases z
        have hc : H h.c ≠ none := by obtain ⟨_, x, e⟩ := E.hand.there; exact fun z => by rw [e] at z; cases z
        exact Keep.write ((Keep.new na).trans k2) na hp hc ea (fun _ z => nomatch z) (fun _ _ z => nomatch z)
      refine c _ wp _ _ [a] kk ⟨a, _, [], rfl, rfl, .inl upd_same, ⟨m1, m1 ▸ m2⟩, repL_mono (fun z b xs t => upd_tup ea (fun _ z => nomatch z) (fun _ _ z => nomatch z) t) m3⟩ (fun b hb => ?_) (by simp)
      have e : b = a := by simpa using hb
      subst e
      exact ⟨na, fun o u z => by rw [upd_same] at z; cases z⟩
    · exact wp.elim
end

/-! ### sorted(d.values()) -/
def kSortV (d : D) (R : D → Prop) : Prop := match d with
  | .dic _ ds => SortOk ds ∧ R (.lst (sortD ds))
  | _ => False
section
variable {X : Cx} {h : Hd} {o : Expr} {p apos cpos pos : Pos} {f : WE}
theorem psortV (hcalm : X.calm = true) (hu : X.A.units + 64 < cLine) (hg : Gl X "sorted") (hm : X.mg "sorted" = none) (hv : bootBuiltins "sorted" = some (.builtin "sorted")) (he : PE X o (tP h f)) (hbase : attributeBase o "values" X.env (eval o X.env) = eval o X.env := by rfl) (hline : (apos.endLine == cpos.line) = true := by rfl)
    (hn : ("sorted" : Str) ≠ "__name__" := by decide) (hdb : (("sorted" : Str) == ("__debug__" : Str)) = false := by decide)
    (hst : starEach [.Call (.Attribute o "values" apos) [] [] cpos] X.env = (false, eval (.Call (.Attribute o "values" apos) [] [] cpos) X.env) :: starEach [] X.env := by rfl) (hpl : (backTo pos (starEach [] X.env)).any (·.1) = false := by rfl) :
    PE X (.Call (.Name "sorted" p) [.Call (.Attribute o "values" apos) [] [] cpos] [] pos) (tF h (wU kSortV f)) := by
  refine ⟨fun pins s σ H Q I w => ?_⟩
  obtain ⟨G, ρ, Fs, R, E, w, c⟩ := w
  refine wpAny_Call_Name_kw (ld_blt I hg hm hv ?_ hn hdb)
  refine PyProof.Rows.callWith_builtin1 ?_ hst hpl
  rw [hst]
  show wpAny _ _ (spliced ((false, eval (.Call (.Attribute o "values" apos) [] [] cpos) X.env) :: backTo pos (starEach [] X.env))) _ _ s
  refine Calls.spliced_cons ?_
  refine wpAny_Call_method (T := "dict") (id := "dict.values") hbase rfl hline PySem.F.plainAttrs_dict PySem.F.slot_dict_values PySem.F.type_dict_values (thn (he.run pins s σ H (fun x H1 => ∃ d F, Keep h H H1 ∧ Rep h H1 d F x ∧ kSortV d R) I ⟨G, ρ, Fs, _, E, w, fun d wd v H1 F k1 q np => ⟨d, F, k1, q, wd⟩⟩) fun u s1 ⟨x, H1, I1, rx, d, F, k1, q, wd⟩ => ?_)
  unfold kSortV at wd
  split at wd
  rotate_left
  · exact wd.elim
  rename_i ks ds
  obtain ⟨a, kvs, F1, rfl, eF, e3, ⟨e4, nd⟩, r⟩ := q
  obtain rfl : u = Value.ref a := rx
  have := RepL.imm _ _ _ wd.1.imm r
  subst this
  obtain ⟨z, lo, vs, rel, dd⟩ := dk_rd I1.hok e3
  obtain ⟨ep, hat⟩ := dd.dictAt
  refine ⟨dd.typeIs, dd.mapOf.noDict, ?_⟩
  show wpAny _ _ (callWith cpos (.builtin "dict.values") [.ref a] [] []) _ X.xe s1
  have I2 : Inv X pins σ H1 { s1 with heap := s1.heap.push { cls := .type "dict_values", data := .fields #[.ref a] } } := I1.kept (t' := s1.toks) fun b ob q => Heap.get?_push_of_some _ q
  refine method_meetsIn PySem.F.slot_dict_values PySem.F.entry_dict_values rfl (PySem.evalArgs_none ⟨rfl, dd.typeIs, PySem.F.args_dict_values_1 _, _, meets_dict_values (mixKind X.prog X.w) a lo, ⟨vs, dd⟩, ?_⟩)
  refine Calls.spliced_nil ?_
  have at2 := hat.push { cls := .type "dict_values", data := .fields #[.ref a] }
  have hl : vs.length = ds.length := by rw [← rel.length, ← r.length, List.length_map]
  refine sorted_coll I2 hu r wd.1 (fun E' R' hR => ?_) (fun l xs' nl r' => ?_)
  · refine PySem.W.kdu_collect (A := X.A.in1) (PySem.W.kdl_values (knd := mixKind X.prog X.w) (kvs := vs) (ep := ep)) (I.ok.hd hcalm) ⟨⟨_, Heap.get?_push_size _ rfl, rfl, rfl⟩, at2⟩ (by rw [hl]; exact wd.1.len) fun h' tk acc hk hacc => ?_
    refine hR h' tk acc.toList hk (vals_of_at ?_ fun j x w e1 e2 => ?_)
    · rw [List.length_map, rel.length, Array.length_toList]; exact hacc.1.symm
    · rw [Array.getElem?_toList] at e2
      obtain ⟨k, e5⟩ := hacc.2 j w e2
      rw [List.getElem?_map] at e1
      obtain ⟨⟨k', x'⟩, e6, rfl⟩ := Option.map_eq_some_iff.mp e1
      obtain ⟨u, hu', ru⟩ := kv_get rel e6
      rw [e5] at hu'
      cases hu'
      exact ru
  · exact (PostF.back k1 E.hand c).lst wd.2 r' l nl
end

/-! ### a def of the text -/
def startR (N : List Str) (ds : List D) : Rho := ds.map Sl.bor ++ List.replicate (N.length - ds.length) .no
section
variable {P : Program} {w : World} {K : PySem.W.Frag} {mg : Str → Option Value} {base : Heap}
theorem en_start {h : Hd} {H : Hp} {N : List Str} {ds : List D} {Fs : List Addr} {vs : List V} (ho : HandOk h H) (r : RepL h H ds Fs vs) (np : ∀ a ∈ Fs, a ≠ h.p) : En h ⟨H, fun _ => none⟩ H (L2.start N vs) (startR N ds) (fun _ => []) where
  keep := Keep.refl H
  hold := fun b x e => nomatch e
  hand := ho
  gp := by obtain ⟨⟨x, e⟩, _⟩ := ho.there; exact fun z => by have z : H h.p = none := z; rw [e] at z; cases z
  gc := by obtain ⟨_, x, e⟩ := ho.there; exact fun z => by have z : H h.c = none := z; rw [e] at z; cases z
  qp := rfl
  len := by unfold L2.start startR; rw [List.length_append, List.length_append, List.length_map, List.length_map, List.length_replicate, List.length_replicate, r.length]
  out := fun _ _ => rfl
  dis := fun _ _ _ z => nomatch z
  nod := fun _ => List.nodup_nil
  own := fun _ _ z => nomatch z
  rep := fun i s e => by
    unfold startR at e
    by_cases hi : i < ds.length
    · rw [List.getElem?_append_left (by rw [List.length_map]; exact hi), List.getElem?_map, List.getElem?_eq_getElem hi] at e
      cases e
      obtain ⟨F1, x, ex, rx, sub⟩ := r.get (List.getElem?_eq_getElem hi)
      refine ⟨some x, ?_, rfl, x, F1, rfl, rx, fun a ha => ⟨fun z => ?_, np a (sub.subset ha)⟩⟩
      · unfold L2.start
        rw [List.getElem?_append_left (by rw [List.length_map, r.length]; exact hi), List.getElem?_map, ex]; rfl
      · obtain ⟨y, ey⟩ := Rep.there _ _ _ rx a ha
        rw [show H a = none from z] at ey; cases ey
    · rw [List.getElem?_append_right (by rw [List.length_map]; omega), List.length_map] at e
      obtain ⟨h1, h2⟩ := List.getElem?_eq_some_iff.mp e
      rw [List.getElem_replicate] at h2
      subst h2
      rw [List.length_replicate] at h1
      refine ⟨none, ?_, rfl⟩
      unfold L2.start
      rw [List.getElem?_append_right (by rw [List.length_map, r.length]; omega), List.length_map, r.length]
      rw [List.getElem?_replicate, if_pos h1]
theorem def_ok {x qual : Str} {st : Stmt} {f : Addr} {fd : FuncData} {N ps : List Str} {k : Nat} {g : List D → (D → Prop) → Prop} {b : WS} {h : Hd} (F : Fun K x qual st f fd) (S : FnScope N ps (defScope st)) (len : ∀ ds R, g ds R → ds.length = ps.length)
    (body : ∀ (cdv : Value) (A : Around) (outer : List Env) (s : Shared) (H : Hp) (E : XK), Room k (A.deeper (envOfC qual (defScope st) s.heap.objs.size f cdv)) → PSs (cxOf CX0 P w K mg base N qual (defScope st) f cdv A outer s H E).nox (defBody st) (tS h b))
    (law : ∀ ds R, g ds R → b { nx := fun _ => R (.v .non), rt := R } (startR N ds)) : FnOk P w K mg base CX0 (k + 1) f fd ps (spP h g) := by
  refine F.ok S (fun vs H Q E q => ?_) (fun cdv A outer s H vs Q E hr q => ?_)
  · obtain ⟨ds, Fs, R, _, r, _, wg, _⟩ := q
    rw [r.length]; exact len ds R wg
  · obtain ⟨ds, Fs, R, ho, r, np, wg, c⟩ := q
    refine ⟨_, body cdv A outer s H E hr, ⟨H, fun _ => none⟩, startR N ds, fun _ => [], _, en_start ho r np, law ds R wg, fun ρ' w' σ' H' Fs' E' => ?_, fun _ z => z.elim, fun _ z => z.elim, fun d wd v H' F k q fr nd => c d wd v H' F k q fr nd⟩
    exact c _ w' _ H' [] E'.keep ⟨rfl, rfl⟩ (fun a ha => nomatch ha) List.nodup_nil
end
end PL

namespace PL
open PySem PySem.Spec PyProof.Rows L2

/-! ### a, b = e and a, b, c = e, whatever stands in the tuple -/
def wUnp2 (i j : Nat) (f : WE) : WS := fun W ρ => f ρ fun d => match d with
  | .tup _ [a, b] => i < ρ.length ∧ j < ρ.length ∧ W.nx ((ρ.set i (.own a)).set j (.own b))
  | _ => False
def wUnp3 (i j l : Nat) (f : WE) : WS := fun W ρ => f ρ fun d => match d with
  | .tup _ [a, b, c] => i < ρ.length ∧ j < ρ.length ∧ l < ρ.length ∧ W.nx (((ρ.set i (.own a)).set j (.own b)).set l (.own c))
  | _ => False
section
variable {X : Cx} {e : Expr} {pos pt : Pos} {kt : Nat} {h : Hd} {f : WE}
theorem qunp2 {i j : Nat} {x y : Str} {px py : Pos} (hc : X.calm = true) (hN : X.N.Nodup) (hi : X.N[i]? = some x) (hj : X.N[j]? = some y) (hx : Loc X.env.scope x) (hy : Loc X.env.scope y) (he : PE X e (tF h f))
    (fx : X.fn x = true ∨ X.env.scope.names.lookup x = some .local := by first | exact .inl rfl | exact .inr rfl | assumption) (fy : X.fn y = true ∨ X.env.scope.names.lookup y = some .local := by first | exact .inl rfl | exact .inr rfl | assumption)
    (hs : swapsWithSole [.Tuple [.Name x px, .Name y py] kt pt] e pos.line X.env = pure false := by rfl) (hw : swappedStores [.Tuple [.Name x px, .Name y py] kt pt] e X.env = pure none := by rfl)
    (h1 : (assignEach [.Tuple [.Name x px, .Name y py] kt pt] X.env).map (·.2) = [assign (.Tuple [.Name x px, .Name y py] kt pt) X.env] := by rfl) :
    PS X (.Assign [.Tuple [.Name x px, .Name y py] kt pt] e pos) (tS h (wUnp2 i j f)) :=
  ps_imp (ps_asg he (pg_tup hc (pgs_cons (pg_name hN hi hx fx) (pgs_cons (pg_name hN hj hy fy) pgs_nil))) hs hw h1) fun D σ H w => by
  obtain ⟨G, ρ, Fs, W, E, w, nx, bk, ct, rt⟩ := w
  refine ⟨G, ρ, Fs, _, E, w, fun d wd v H1 F k q fr nd => ?_⟩
  split at wd
  · obtain ⟨p, xs, rfl, e3, F1, F2, v1, ys, rfl, rfl, r1, F3, F4, v2, zs, rfl, rfl, r2, rfl, rfl⟩ := q
    rw [List.append_nil] at fr nd
    obtain ⟨n1, n2, n3⟩ := List.nodup_append.mp nd
    have E1 := E.set_new k r1 (fun a ha => fr a (List.mem_append_left _ ha)) n1 wd.1
    refine ⟨p, _, rfl, e3.sq, rfl, v1, _, rfl, v2, _, rfl, rfl, nx _ wd.2.2 _ H1 _ (E1.store r2 ?_ (by rw [List.length_set]; exact wd.2.1))⟩
    obtain ⟨p1, p2⟩ := Apart.of (F := F3) E k (fun a ha => fr a (List.mem_append_right _ ha)) n2
    refine ⟨fun a ha => ⟨(p1 a ha).1, (p1 a ha).2.1, fun l hl => ?_⟩, p2⟩
    by_cases z : l = i
    · subst z; rw [setF_same] at hl; exact n3 a hl a ha rfl
    · rw [setF_ne z] at hl; exact (p1 a ha).2.2 l hl
  · exact wd.elim
theorem qunp3 {i j l : Nat} {x y z : Str} {px py pz : Pos} (hc : X.calm = true) (hN : X.N.Nodup) (hi : X.N[i]? = some x) (hj : X.N[j]? = some y) (hl : X.N[l]? = some z) (hx : Loc X.env.scope x) (hy : Loc X.env.scope y) (hz : Loc X.env.scope z) (he : PE X e (tF h f))
    (fx : X.fn x = true ∨ X.env.scope.names.lookup x = some .local := by first | exact .inl rfl | exact .inr rfl | assumption) (fy : X.fn y = true ∨ X.env.scope.names.lookup y = some .local := by first | exact .inl rfl | exact .inr rfl | assumption) (fz : X.fn z = true ∨ X.env.scope.names.lookup z = some .local := by first | exact .inl rfl | exact .inr rfl | assumption)
    (hs : swapsWithSole [.Tuple [.Name x px, .Name y py, .Name z pz] kt pt] e pos.line X.env = pure false := by rfl) (hw : swappedStores [.Tuple [.Name x px, .Name y py, .Name z pz] kt pt] e X.env = pure none := by rfl)
    (h1 : (assignEach [.Tuple [.Name x px, .Name y py, .Name z pz] kt pt] X.env).map (·.2) = [assign (.Tuple [.Name x px, .Name y py, .Name z pz] kt pt) X.env] := by rfl) :
    PS X (.Assign [.Tuple [.Name x px, .Name y py, .Name z pz] kt pt] e pos) (tS h (wUnp3 i j l f)) :=
  ps_imp (ps_asg he (pg_tup hc (pgs_cons (pg_name hN hi hx fx) (pgs_cons (pg_name hN hj hy fy) (pgs_cons (pg_name hN hl hz fz) pgs_nil)))) hs hw h1) fun D σ H w => by
  obtain ⟨G, ρ, Fs, W, E, w, nx, bk, ct, rt⟩ := w
  refine ⟨G, ρ, Fs, _, E, w, fun d wd v H1 F k q fr nd => ?_⟩
  split at wd
  · obtain ⟨p, xs, rfl, e3, F1, F2, v1, ys, rfl, rfl, r1, F3, F4, v2, zs, rfl, rfl, r2, F5, F6, v3, us, rfl, rfl, r3, rfl, rfl⟩ := q
    rw [List.append_nil] at fr nd
    obtain ⟨n1, n2, n3⟩ := List.nodup_append.mp nd
    obtain ⟨n4, n5, n6⟩ := List.nodup_append.mp n2
    have E1 := E.set_new k r1 (fun a ha => fr a (List.mem_append_left _ ha)) n1 wd.1
    obtain ⟨p1, p2⟩ := Apart.of (F := F3 ++ F5) E k (fun a ha => fr a (List.mem_append_right _ ha)) n2
    have E2 := E1.store (i := j) r2 ⟨fun a ha => ⟨(p1 a (List.mem_append_left _ ha)).1, (p1 a (List.mem_append_left _ ha)).2.1, fun m hm => by
      by_cases z : m = i
      · subst z; rw [setF_same] at hm; exact n3 a hm a (List.mem_append_left _ ha) rfl
      · rw [setF_ne z] at hm; exact (p1 a (List.mem_append_left _ ha)).2.2 m hm⟩, n4⟩ (by rw [List.length_set]; exact wd.2.1)
    refine ⟨p, _, rfl, e3.sq, rfl, v1, _, rfl, v2, _, rfl, v3, _, rfl, rfl, nx _ wd.2.2.2 _ H1 _ (E2.store r3 ⟨fun a ha => ⟨(p1 a (List.mem_append_right _ ha)).1, (p1 a (List.mem_append_right _ ha)).2.1, fun m hm => ?_⟩, n5⟩ (by rw [List.length_set, List.length_set]; exact wd.2.2.1))⟩
    by_cases y : m = j
    · subst y; rw [setF_same] at hm; exact n6 a hm a ha rfl
    · rw [setF_ne y] at hm
      by_cases z : m = i
      · subst z; rw [setF_same] at hm; exact n3 a hm a (List.mem_append_right _ ha) rfl
      · rw [setF_ne z] at hm; exact (p1 a (List.mem_append_right _ ha)).2.2 m hm
  · exact wd.elim
end
/-! ### globals; x = [..] -/
section
variable {X : Cx} {h : Hd}
theorem pglob {x : Str} {v : V} {pos : Pos} (hg : Gl X x) (hm : ∃ u, X.mg x = some u ∧ RelV v u) (hd : (x == ("__debug__" : Str)) = false := by decide) : PE X (.Name x pos) (tF h (wC v)) := by
  obtain ⟨u, h1, h2⟩ := hm
  exact pconst (pe_glob hg h1 h2 hd)
theorem qsetLc {i : Nat} {y : Str} {py : Pos} {elt tg iter : Expr} {ifs : List Expr} {scope : Scope} {own : List (Str × Nat)} {pos spos : Pos} {it : WI} {g : WG} {ct : WT} {el : WE} {is : List Nat} (hc : X.calm = true) (hN : X.N.Nodup) (hy : X.N[i]? = some y) (hyl : X.env.scope.names.lookup y = some .local)
    (hk : X.env.scope.kind = .function) (hl : (py.line == pos.line) = true) (hA : (scope.names.any fun (n, k) => n == y && (k == .local || k == .cell)) = false) (hi : PI X tg iter (tI h it)) (ok : BlkOk X.N X.env.scope scope own)
    (hg : ∀ (s : Shared) (H : Hp) (C : Addr) (cl : List (Str × Addr)) (fp : List Addr), PG (X.blk s H scope (compEnvC scope cl C X.env) fp) tg (tG h is g)) (ht : ∀ (s : Shared) (H : Hp) (C : Addr) (cl : List (Str × Addr)) (fp : List Addr), PTs (X.blk s H scope (compEnvC scope cl C X.env) fp) ifs (tT h ct))
    (he : ∀ (s : Shared) (H : Hp) (C : Addr) (cl : List (Str × Addr)) (fp : List Addr), PE (X.blk s H scope (compEnvC scope cl C X.env) fp) elt (tF h el)) (hsub : ∀ i ∈ is, i ∈ own.map (·.2) := by decide) (hs : ∀ x, foldedSetIterable iter X.env x = pure x := by intro _; rfl) :
    PS X (.Assign [.Name y py] (.ListComp elt [⟨tg, iter, ifs, 0⟩] scope pos) spos) (tS h (wSet i (wLc (own.map (·.2)) it g ct el))) :=
  ps_imp (ps_setLc hc hN hy hyl (sw_true hk hyl hl hA) hi ok hg ht he hs) fun D σ H w => by
    obtain ⟨G, ρ, Fs, W, E, w, nx, bk, ct, rt⟩ := w
    exact lc_sound hsub ⟨G, ρ, Fs, _, E, w, fun d wd v H1 F k q fr nd => nx _ wd.2 _ H1 _ (E.set_new k q fr nd wd.1)⟩
end
end PL

namespace PL
open PySem PySem.Spec PyProof.Rows L2
/-! ### sorted of ints, of texts -/
theorem lex_one {O : KeyOrd} (x y : O.α) : lexLt O [x] [y] = O.blt x y := by
  rw [lex_cons]
  show (O.blt x y || (!O.blt y x && false)) = O.blt x y
  rw [Bool.and_false, Bool.or_false]
theorem dLe_int (a b : Int) : dLe (.v (.int a)) (.v (.int b)) = decide (a ≤ b) := by
  show (!lexLt itemOrd [Sum.inl b] [Sum.inl a]) = _
  rw [lex_one]
  show (!decide (b < a)) = decide (a ≤ b)
  by_cases h : b < a
  · rw [decide_eq_true h, decide_eq_false (by omega)]; rfl
  · rw [decide_eq_false h, decide_eq_true (by omega)]; rfl
theorem dLe_str (a b : Str) : dLe (.v (.str a)) (.v (.str b)) = !strLt b a := by
  show (!lexLt itemOrd [Sum.inr b.cps.toList] [Sum.inr a.cps.toList]) = _
  rw [lex_one]
  rfl
theorem sortD_ints (ns : List Int) : sortD (ns.map fun n => .v (.int n)) = (ns.mergeSort fun a b => decide (a ≤ b)).map fun n => .v (.int n) := by
  unfold sortD
  exact (List.map_mergeSort (r := fun a b => decide (a ≤ b)) (s := dLe) (f := fun n => D.v (.int n)) (l := ns) fun a _ b _ => (dLe_int a b).symm).symm
theorem sortD_strs (ws : List Str) : sortD (ws.map fun w => .v (.str w)) = (ws.mergeSort fun a b => !strLt b a).map fun w => .v (.str w) := by
  unfold sortD
  exact (List.map_mergeSort (r := fun a b => !strLt b a) (s := dLe) (f := fun w => D.v (.str w)) (l := ws) fun a _ b _ => (dLe_str a b).symm).symm
theorem sortOk_ints (ns : List Int) (hl : ns.length ≤ 1000) : SortOk (ns.map fun n => .v (.int n)) where
  imm := immL_map _ (fun _ => rfl) ns
  alike := by
    intro d hd d' hd'
    rw [List.map_map] at hd hd'
    obtain ⟨n, _, rfl⟩ := List.mem_map.mp hd
    obtain ⟨n', _, rfl⟩ := List.mem_map.mp hd'
    rfl
  able := .inr fun d hd => by
    rw [List.map_map] at hd
    obtain ⟨n, _, rfl⟩ := List.mem_map.mp hd
    refine ⟨?_, ?_⟩
    · intro z; cases z
    · intro xs z; cases z
  each := fun d hd => by
    obtain ⟨n, _, rfl⟩ := List.mem_map.mp hd
    exact ⟨rfl, Nat.zero_le _⟩
  len := by rw [List.length_map]; exact Nat.le_of_lt (small1000 hl)
theorem sortOk_strs (ws : List Str) (hl : ws.length ≤ 1000) (ok : ∀ w ∈ ws, (PyData.str w).canLay0 = true) : SortOk (ws.map fun n => .v (.str n)) where
  imm := immL_map _ (fun _ => rfl) ws
  alike := by
    intro d hd d' hd'
    rw [List.map_map] at hd hd'
    obtain ⟨n, _, rfl⟩ := List.mem_map.mp hd
    obtain ⟨n', _, rfl⟩ := List.mem_map.mp hd'
    rfl
  able := .inr fun d hd => by
    rw [List.map_map] at hd
    obtain ⟨n, _, rfl⟩ := List.mem_map.mp hd
    refine ⟨?_, ?_⟩
    · intro z; cases z
    · intro xs z; cases z
  each := fun d hd => by
    obtain ⟨n, hn, rfl⟩ := List.mem_map.mp hd
    exact ⟨ok n hn, Nat.zero_le _⟩
  len := by rw [List.length_map]; exact Nat.le_of_lt (small1000 hl)
/-! ### equality of data -/
theorem eqv_ints : ∀ (a b : List Int), PyData.eqvAll (pyL (a.map fun n => .v (.int n))) (pyL (b.map fun n => .v (.int n))) = decide (a = b)
  | [], [] => rfl
  | [], _ :: _ => rfl
  | _ :: _, [] => rfl
  | x :: a, y :: b => by
    show (PyData.eqv (.int x) (.int y) && PyData.eqvAll _ _) = _
    rw [eqv_ints a b]
    show (decide (x = y) && _) = _
    by_cases h : x = y <;> by_cases g : a = b <;> simp [h, g]
/-- flat data -/
def flatOk (d : D) : Prop := d.py.canLay0 = true ∧ d.py.depth = 0
theorem flat_int (i : Int) : flatOk (.v (.int i)) := ⟨rfl, rfl⟩
theorem flat_bl (b : Bool) : flatOk (.v (.bl b)) := ⟨rfl, rfl⟩
theorem flat_non : flatOk (.v .non) := ⟨rfl, rfl⟩
theorem lay_all : ∀ {ds : List D}, (∀ d ∈ ds, d.py.canLay0 = true) → PyData.canLayAll0 (pyL ds) = true
  | [], _ => rfl
  | d :: ds, h => by
    show (d.py.canLay0 && PyData.canLayAll0 (pyL ds)) = true
    rw [h d (by simp), lay_all fun e he => h e (by simp [he])]
    rfl
theorem depth_all {n : Nat} : ∀ {ds : List D}, (∀ d ∈ ds, d.py.depth ≤ n) → PyData.depthAll (pyL ds) ≤ n
  | [], _ => Nat.zero_le n
  | d :: ds, h => by
    show max d.py.depth (PyData.depthAll (pyL ds)) ≤ n
    exact Nat.max_le.mpr ⟨h d (by simp), depth_all fun e he => h e (by simp [he])⟩
theorem shaped_lst {ds : List D} (h : ∀ d ∈ ds, flatOk d) : SeqAt.shaped (D.lst ds).py = true := by
  have h1 : (D.lst ds).py.canLay0 = true := lay_all fun d hd => (h d hd).1
  have h2 : (D.lst ds).py.depth ≤ 64 := by
    show PyData.depthAll (pyL ds) + 1 ≤ 64
    have := depth_all (n := 0) (ds := ds) fun d hd => Nat.le_of_eq (h d hd).2
    omega
  unfold SeqAt.shaped
  rw [h1, decide_eq_true h2]; rfl
theorem shaped_tup {z : Bool} {ds : List D} (h : ∀ d ∈ ds, flatOk d) : SeqAt.shaped (D.tup z ds).py = true := shaped_lst h
theorem shaped_flat {d : D} (h : flatOk d) : SeqAt.shaped d.py = true := by
  unfold SeqAt.shaped
  rw [h.1, h.2]; rfl
theorem k_eq_ints {a b : List Int} {R : D → Prop} (h : R (.v (.bl (decide (a = b))))) : kEq (.lst (a.map fun n => .v (.int n))) (.lst (b.map fun n => .v (.int n))) R := by
  refine ⟨shaped_lst fun d hd => ?_, shaped_lst fun d hd => ?_, ?_⟩
  · obtain ⟨n, _, rfl⟩ := List.mem_map.mp hd; exact flat_int n
  · obtain ⟨n, _, rfl⟩ := List.mem_map.mp hd; exact flat_int n
  · show R (.v (.bl (PyData.eqvAll _ _)))
    rw [eqv_ints]; exact h
theorem k_ne_ints {a b : List Int} {R : D → Prop} (h : R (.v (.bl (!decide (a = b))))) : kNe (.lst (a.map fun n => .v (.int n))) (.lst (b.map fun n => .v (.int n))) R := by
  refine ⟨shaped_lst fun d hd => ?_, shaped_lst fun d hd => ?_, ?_⟩
  · obtain ⟨n, _, rfl⟩ := List.mem_map.mp hd; exact flat_int n
  · obtain ⟨n, _, rfl⟩ := List.mem_map.mp hd; exact flat_int n
  · show R (.v (.bl (!PyData.eqvAll _ _)))
    rw [eqv_ints]; exact h
theorem k_eq_int {a b : Int} {R : D → Prop} (h : R (.v (.bl (decide (a = b))))) : kEq (.v (.int a)) (.v (.int b)) R := ⟨rfl, rfl, h⟩
theorem k_ne_int {a b : Int} {R : D → Prop} (h : R (.v (.bl (!decide (a = b))))) : kNe (.v (.int a)) (.v (.int b)) R := ⟨rfl, rfl, h⟩
theorem k_eq_bl {a b : Bool} {R : D → Prop} (h : R (.v (.bl (a == b)))) : kEq (.v (.bl a)) (.v (.bl b)) R := ⟨rfl, rfl, h⟩
theorem k_ne_bl {a b : Bool} {R : D → Prop} (h : R (.v (.bl (!(a == b))))) : kNe (.v (.bl a)) (.v (.bl b)) R := ⟨rfl, rfl, h⟩
theorem k_eq_str {a b : Str} {R : D → Prop} (ha : (PyData.str a).canLay0 = true) (hb : (PyData.str b).canLay0 = true) (h : R (.v (.bl (a == b)))) : kEq (.v (.str a)) (.v (.str b)) R := ⟨shaped_flat ⟨ha, rfl⟩, shaped_flat ⟨hb, rfl⟩, h⟩
theorem k_ne_str {a b : Str} {R : D → Prop} (ha : (PyData.str a).canLay0 = true) (hb : (PyData.str b).canLay0 = true) (h : R (.v (.bl (!(a == b))))) : kNe (.v (.str a)) (.v (.str b)) R := ⟨shaped_flat ⟨ha, rfl⟩, shaped_flat ⟨hb, rfl⟩, h⟩
theorem k_sorted_ints {d : D} {ns : List Int} {R : D → Prop} (e : gath d = some (ns.map fun n => .v (.int n))) (hl : ns.length ≤ 1000) (h : R (.lst ((ns.mergeSort fun a b => decide (a ≤ b)).map fun n => .v (.int n)))) : kSorted [d] R := by
  unfold kSorted
  simp only [e]
  exact ⟨sortOk_ints ns hl, by rw [sortD_ints]; exact h⟩
theorem k_sorted_strs {d : D} {ws : List Str} {R : D → Prop} (e : gath d = some (ws.map fun n => .v (.str n))) (hl : ws.length ≤ 1000) (ok : ∀ w ∈ ws, (PyData.str w).canLay0 = true) (h : R (.lst ((ws.mergeSort fun a b => !strLt b a).map fun n => .v (.str n)))) : kSorted [d] R := by
  unfold kSorted
  simp only [e]
  exact ⟨sortOk_strs ws hl ok, by rw [sortD_strs]; exact h⟩
end PL

namespace PL
open PySem PySem.Spec PyProof.Rows L2
/-! ### for, by a word of the turn -/
theorem forW_by {α : Type} {t : WG} {f : WS} {W : WEnds} {L : List (Option (V × D))} (g : α → D) : ∀ (l : List α) (P : Nat → Rho → Prop) (k : Nat), (∀ i a ρ, l[i]? = some a → P (k + i) ρ → ∀ nx : Rho → Prop, (∀ ρ', P (k + i + 1) ρ' → nx ρ') → t (g a) ρ fun ρ1 => f { W with nx := nx, ct := nx, bk := fun ρ2 => lcks ρ2 = L ∧ W.nx ρ2 } ρ1) →
    (∀ ρ, P (k + l.length) ρ → lcks ρ = L ∧ W.nx ρ) → ∀ ρ, P k ρ → forW t f W L (l.map g) ρ
  | [], P, k, _, hd, ρ, p => hd ρ p
  | a :: l, P, k, hs, hd, ρ, p => hs 0 a ρ rfl p _ fun ρ' p' => forW_by g l P (k + 1) (fun i b ρ2 e p2 nx hn => hs (i + 1) b ρ2 e (by rw [show k + (i + 1) = k + 1 + i by omega]; exact p2) nx (by rw [show k + (i + 1) + 1 = k + 1 + i + 1 by omega]; exact hn)) (fun ρ2 p2 => hd ρ2 (by rw [List.length_cons, show k + (l.length + 1) = k + 1 + l.length by omega]; exact p2)) ρ' p'
/-! ### tables by a list of keys and a function -/
section
variable {α κ : Type} [DecidableEq κ] [DecidableEq α]
theorem lookD_map {β : Type} (kk : α → κ) (inj : ∀ a b, kk a = kk b → a = b) (g : α → β) (c : α) : ∀ L : List α, lookD (L.map kk) (L.map g) (kk c) = if c ∈ L then some (g c) else none
  | [] => by simp [lookD]
  | a :: L => by
    show (if kk a = kk c then some (g a) else lookD (L.map kk) (L.map g) (kk c)) = _
    by_cases h : a = c
    · subst h; rw [if_pos rfl, if_pos (by simp)]
    · rw [if_neg (fun z => h (inj _ _ z)), lookD_map kk inj g c L]
      by_cases m : c ∈ L
      · rw [if_pos m, if_pos (by simp [m])]
      · rw [if_neg m, if_neg (by simp [m, Ne.symm h])]
theorem putD_map {β : Type} (kk : α → κ) (inj : ∀ a b, kk a = kk b → a = b) (g : α → β) (c : α) (d : β) : ∀ L : List α, L.Nodup → putD (L.map kk) (L.map g) (kk c) d =
    ((if c ∈ L then L else L ++ [c]).map kk, (if c ∈ L then L else L ++ [c]).map fun x => if x = c then d else g x)
  | [], _ => by simp [putD]
  | a :: L, nd => by
    obtain ⟨n1, n2⟩ := List.nodup_cons.mp nd
    show (if kk a = kk c then (kk a :: L.map kk, d :: L.map g) else (kk a :: (putD (L.map kk) (L.map g) (kk c) d).1, g a :: (putD (L.map kk) (L.map g) (kk c) d).2)) = _
    by_cases h : a = c
    · subst h
      rw [if_pos rfl, if_pos (by simp)]
      have : L.map g = L.map fun x => if x = a then d else g x := List.map_congr_left fun x hx => by rw [if_neg (fun (z : x = a) => n1 (z ▸ hx))]
      simp [this]
    · rw [if_neg (fun z => h (inj _ _ z)), putD_map kk inj g c d L n2]
      by_cases m : c ∈ L
      · rw [if_pos m, if_pos (by simp [m])]
        simp [h]
      · rw [if_neg m, if_neg (by simp [m, Ne.symm h])]
        simp [h]
theorem memK_map (kk : α → κ) (inj : ∀ a b, kk a = kk b → a = b) (c : α) (L : List α) : memK (L.map kk) (kk c) = decide (c ∈ L) := by
  unfold memK
  rw [List.any_map]
  by_cases m : c ∈ L
  · rw [decide_eq_true m, List.any_eq_true]
    exact ⟨c, m, decide_eq_true rfl⟩
  · rw [decide_eq_false m, List.any_eq_false]
    intro x hx z
    exact m (inj _ _ (of_decide_eq_true z) ▸ hx)
end
/-! ### dict comprehensions -/
theorem dcW_of {α β : Type} [DecidableEq β] {t : WG} {ct : WT} {kl vl : WE} {ρ : Rho} {R : D → Prop} (g : α → D) (kk : β → Key) (inj : ∀ a b, kk a = kk b → a = b) (key : α → β) (val : β → D) (yes : α → Bool) : ∀ (l : List α) (L : List β), L.Nodup →
    (∀ a ∈ l, ∀ K : Option (D × D) → Prop, (∀ y, y.key = some (kk (key a)) → K (if yes a then some (y, val (key a)) else none)) → t (g a) ρ fun ρ1 => ct ρ1 fun b => if b = true then kl ρ1 fun y => vl ρ1 fun z => K (some (y, z)) else K none) →
    L.length + l.length ≤ 1000 → (∀ L' : List β, L'.Nodup → (∀ c, c ∈ L' ↔ c ∈ L ∨ ∃ a ∈ l, yes a = true ∧ key a = c) → R (.dic (L'.map kk) (L'.map val))) → dcW t ct kl vl ρ (l.map g) (L.map kk) (L.map val) R
  | [], L, nd, _, _, h => h L nd fun c => by simp
  | a :: l, L, nd, hx, hl, h => by
    rw [List.length_cons] at hl
    have hx' : ∀ a ∈ l, ∀ K : Option (D × D) → Prop, (∀ y, y.key = some (kk (key a)) → K (if yes a then some (y, val (key a)) else none)) → t (g a) ρ fun ρ1 => ct ρ1 fun b => if b = true then kl ρ1 fun y => vl ρ1 fun z => K (some (y, z)) else K none := fun z hz => hx z (by simp [hz])
    refine hx a (by simp) (fun o => match o with
      | some (y, z) => match y.key with
        | some k => (L.map kk).length < sizeLine ∧ dcW t ct kl vl ρ (l.map g) (putD (L.map kk) (L.map val) k z).1 (putD (L.map kk) (L.map val) k z).2 R
        | none => False
      | none => dcW t ct kl vl ρ (l.map g) (L.map kk) (L.map val) R) fun y ey => ?_
    by_cases e : yes a = true
    · rw [if_pos e]
      simp only [ey]
      refine ⟨by rw [List.length_map]; exact small1000 (by omega), ?_⟩
      rw [putD_map kk inj val (key a) (val (key a)) L nd]
      have ev : (fun x => if x = key a then val (key a) else val x) = val := by
        funext x
        by_cases z : x = key a
        · rw [if_pos z, z]
        · rw [if_neg z]
      rw [ev]
      by_cases m : key a ∈ L
      · simp only [if_pos m]
        refine dcW_of g kk inj key val yes l L nd hx' (by omega) fun L' n' h' => h L' n' fun c => ?_
        rw [h' c]
        constructor
        · rintro (q | ⟨b, hb, q⟩)
          · exact .inl q
          · exact .inr ⟨b, by simp [hb], q⟩
        · rintro (q | ⟨b, hb, q1, q2⟩)
          · exact .inl q
          · rcases List.mem_cons.mp hb with rfl | hb
            · exact .inl (q2 ▸ m)
            · exact .inr ⟨b, hb, q1, q2⟩
      · simp only [if_neg m]
        refine dcW_of g kk inj key val yes l (L ++ [key a]) (List.nodup_append.mpr ⟨nd, by simp, fun x hx1 y hy z => m (by simp at hy; rw [← hy, ← z]; exact hx1)⟩) hx' (by rw [List.length_append, List.length_singleton]; omega) fun L' n' h' => h L' n' fun c => ?_
        rw [h' c]
        constructor
        · rintro (q | ⟨b, hb, q⟩)
          · rcases List.mem_append.mp q with q | q
            · exact .inl q
            · exact .inr ⟨a, by simp, e, (List.mem_singleton.mp q).symm⟩
          · exact .inr ⟨b, by simp [hb], q⟩
        · rintro (q | ⟨b, hb, q1, q2⟩)
          · exact .inl (by simp [q])
          · rcases List.mem_cons.mp hb with rfl | hb
            · exact .inl (by simp [q2])
            · exact .inr ⟨b, hb, q1, q2⟩
    · rw [if_neg e]
      refine dcW_of g kk inj key val yes l L nd hx' (by omega) fun L' n' h' => h L' n' fun c => ?_
      rw [h' c]
      constructor
      · rintro (q | ⟨b, hb, q⟩)
        · exact .inl q
        · exact .inr ⟨b, by simp [hb], q⟩
      · rintro (q | ⟨b, hb, q1, q2⟩)
        · exact .inl q
        · rcases List.mem_cons.mp hb with rfl | hb
          · exact absurd q1 e
          · exact .inr ⟨b, hb, q1, q2⟩
end PL
namespace PL
open PySem PySem.Spec PyProof.Rows L2
/-! ### slots that are not locked -/
def fr : Option D → Sl
  | none => .no
  | some d => .own d
theorem lcks_nil : lcks [] = [] := rfl
theorem lcks_fr (o : Option D) (ρ : Rho) : lcks (fr o :: ρ) = none :: lcks ρ := by cases o <;> rfl
theorem lcks_no (ρ : Rho) : lcks (.no :: ρ) = none :: lcks ρ := rfl
theorem lcks_own (d : D) (ρ : Rho) : lcks (.own d :: ρ) = none :: lcks ρ := rfl
theorem lcks_bor (d : D) (ρ : Rho) : lcks (.bor d :: ρ) = none :: lcks ρ := rfl
theorem lcks_lck (v : V) (d : D) (ρ : Rho) : lcks (.lck v d :: ρ) = some (v, d) :: lcks ρ := rfl
theorem nodup_len {α : Type} [DecidableEq α] : ∀ {L M : List α}, L.Nodup → (∀ x ∈ L, x ∈ M) → L.length ≤ M.length
  | [], M, _, _ => Nat.zero_le _
  | a :: L, M, nd, h => by
    obtain ⟨n1, n2⟩ := List.nodup_cons.mp nd
    have ha : a ∈ M := h a (by simp)
    have := nodup_len (L := L) (M := M.erase a) n2 fun x hx => by
      have hne : x ≠ a := fun z => n1 (z ▸ hx)
      exact (List.mem_erase_of_ne hne).mpr (h x (by simp [hx]))
    rw [List.length_erase_of_mem ha] at this
    have := List.length_pos_of_mem ha
    rw [List.length_cons]
    omega
end PL

/-! K20m: trails that go along every edge once. -/
namespace K20
abbrev Edge := Nat × Nat
section
variable {ι : Type} {ed : ι → Edge}
def Trail (ed : ι → Edge) : Nat → List ι → Nat → Prop
  | x, [], z => x = z
  | x, i :: is, z => (ed i).1 = x ∧ Trail ed (ed i).2 is z
def dl (a u : Nat) : Int := if a = u then 1 else 0
theorem dl_self (a : Nat) : dl a a = 1 := if_pos rfl
theorem dl_ne {a u : Nat} (h : a ≠ u) : dl a u = 0 := if_neg h
theorem dl_nonneg (a u : Nat) : 0 ≤ dl a u := by unfold dl; split <;> omega
theorem dl_le (a u : Nat) : dl a u ≤ 1 := by unfold dl; split <;> omega
def bal : List Edge → Nat → Int
  | [], _ => 0
  | e :: E, u => dl e.1 u - dl e.2 u + bal E u
theorem bal_app (u : Nat) : ∀ A B : List Edge, bal (A ++ B) u = bal A u + bal B u
  | [], B => by show bal B u = 0 + bal B u; omega
  | e :: A, B => by
    show dl e.1 u - dl e.2 u + bal (A ++ B) u = dl e.1 u - dl e.2 u + bal A u + bal B u
    rw [bal_app u A B]; omega
theorem bal_perm {A B : List Edge} (u : Nat) (h : A.Perm B) : bal A u = bal B u := by
  induction h with
  | nil => rfl
  | cons e _ ih => show _ + bal _ u = _ + bal _ u; rw [ih]
  | swap a b l => show dl b.1 u - dl b.2 u + (dl a.1 u - dl a.2 u + bal l u) = dl a.1 u - dl a.2 u + (dl b.1 u - dl b.2 u + bal l u); omega
  | trans _ _ h1 h2 => exact h1.trans h2
theorem trail_bal (u : Nat) : ∀ {is : List ι} {x z : Nat}, Trail ed x is z → bal (is.map ed) u = dl x u - dl z u
  | [], x, z, h => by
    have h : x = z := h
    subst h
    show (0 : Int) = dl x u - dl x u
    omega
  | i :: is, x, z, ⟨h1, h2⟩ => by
    show dl (ed i).1 u - dl (ed i).2 u + bal (is.map ed) u = _
    rw [trail_bal u h2, h1]; omega
theorem trail_app : ∀ {A B : List ι} {x y z : Nat}, Trail ed x A y → Trail ed y B z → Trail ed x (A ++ B) z
  | [], B, x, y, z, h, g => by have h : x = y := h; subst h; exact g
  | i :: A, B, x, y, z, ⟨h1, h2⟩, g => ⟨h1, trail_app h2 g⟩
/-- on from v till nothing begins where one stands -/
theorem walk : ∀ (n : Nat) (R : List ι) (v : Nat), R.length = n → ∃ T z R', Trail ed v T z ∧ R.Perm (T ++ R') ∧ ∀ i ∈ R', (ed i).1 ≠ z
  | 0, R, v, hn => by
    have : R = [] := List.length_eq_zero_iff.mp hn
    subst this
    exact ⟨[], v, [], rfl, .nil, fun i hi => nomatch hi⟩
  | n + 1, R, v, hn => by
    by_cases h : ∃ i ∈ R, (ed i).1 = v
    · obtain ⟨i, hi, hv⟩ := h
      obtain ⟨A, B, rfl⟩ := List.append_of_mem hi
      have hl : (A ++ B).length = n := by
        rw [List.length_append, List.length_cons] at hn
        rw [List.length_append]; omega
      obtain ⟨T, z, R', h1, h2, h3⟩ := walk n (A ++ B) (ed i).2 hl
      exact ⟨i :: T, z, R', ⟨hv, h1⟩, List.perm_middle.trans (h2.cons i), h3⟩
    · exact ⟨[], v, R, rfl, List.Perm.refl _, fun i hi z => h ⟨i, hi, z⟩⟩
/-- where nothing begins, no more ends than .. -/
theorem bal_le {z : Nat} : ∀ {R : List ι}, (∀ i ∈ R, (ed i).1 ≠ z) → bal (R.map ed) z ≤ 0
  | [], _ => Int.le_refl 0
  | i :: R, h => by
    show dl (ed i).1 z - dl (ed i).2 z + bal (R.map ed) z ≤ 0
    have h1 := dl_ne (h i (by simp))
    have h2 := dl_nonneg (ed i).2 z
    have h3 := bal_le (R := R) fun j hj => h j (by simp [hj])
    omega
theorem bal_begin {z : Nat} {R : List ι} (h : 0 ≤ bal (R.map ed) z) (g : ∃ i ∈ R, (ed i).2 = z) : ∃ i ∈ R, (ed i).1 = z := by
  refine Classical.byContradiction fun n => ?_
  have n' : ∀ i ∈ R, (ed i).1 ≠ z := fun i hi e => n ⟨i, hi, e⟩
  obtain ⟨i, hi, e⟩ := g
  obtain ⟨A, B, rfl⟩ := List.append_of_mem hi
  have p : bal ((A ++ i :: B).map ed) z = dl (ed i).1 z - dl (ed i).2 z + bal ((A ++ B).map ed) z := bal_perm z ((List.perm_middle (a := i) (l₁ := A) (l₂ := B)).map ed)
  have h1 := dl_ne (n' i hi)
  have h2 := bal_le (ed := ed) (z := z) (R := A ++ B) fun j hj => n' j (by simp only [List.mem_append, List.mem_cons] at hj ⊢; rcases hj with q | q <;> simp [q])
  rw [e, dl_self] at p
  omega
inductive Reach (E : List Edge) (x : Nat) : Nat → Prop
  | base : Reach E x x
  | fwd {e : Edge} : e ∈ E → Reach E x e.1 → Reach E x e.2
  | bwd {e : Edge} : e ∈ E → Reach E x e.2 → Reach E x e.1
def Conn (E : List Edge) (x : Nat) : Prop := ∀ e ∈ E, Reach E x e.1
/-- balanced but for a way from x -/
def From (E : List Edge) (x : Nat) : Prop := ∃ y, ∀ u, bal E u = dl x u - dl y u
theorem Reach.perm {A B : List Edge} {x u : Nat} (h : A.Perm B) (r : Reach A x u) : Reach B x u := by
  induction r with
  | base => exact .base
  | fwd m _ ih => exact .fwd (h.mem_iff.mp m) ih
  | bwd m _ ih => exact .bwd (h.mem_iff.mp m) ih
theorem Reach.mono {A B : List Edge} {x u : Nat} (h : ∀ e ∈ A, e ∈ B) (r : Reach A x u) : Reach B x u := by
  induction r with
  | base => exact .base
  | fwd m _ ih => exact .fwd (h _ m) ih
  | bwd m _ ih => exact .bwd (h _ m) ih
theorem Reach.trans {A : List Edge} {x y u : Nat} (r : Reach A x y) (q : Reach A y u) : Reach A x u := by
  induction q with
  | base => exact r
  | fwd m _ ih => exact .fwd m ih
  | bwd m _ ih => exact .bwd m ih
theorem Reach.symm {A : List Edge} {x u : Nat} (r : Reach A x u) : Reach A u x := by
  induction r with
  | base => exact .base
  | fwd m _ ih => exact (Reach.bwd m .base).trans ih
  | bwd m _ ih => exact (Reach.fwd m .base).trans ih
/-- the places of a trail -/
def onT (ed : ι → Edge) : Nat → List ι → Nat → Prop
  | x, [], v => v = x
  | x, i :: is, v => v = x ∨ onT ed (ed i).2 is v
theorem onT_start : ∀ {is : List ι} {x : Nat}, onT ed x is x
  | [], x => rfl
  | _ :: _, x => .inl rfl
theorem onT_split : ∀ {is : List ι} {x z v : Nat}, Trail ed x is z → onT ed x is v → ∃ A B, is = A ++ B ∧ Trail ed x A v ∧ Trail ed v B z
  | [], x, z, v, h, o => by
    have o : v = x := o
    subst o
    exact ⟨[], [], rfl, rfl, h⟩
  | i :: is, x, z, v, ⟨h1, h2⟩, o => by
    rcases o with rfl | o
    · exact ⟨[], i :: is, rfl, rfl, h1, h2⟩
    · obtain ⟨A, B, e, g1, g2⟩ := onT_split h2 o
      exact ⟨i :: A, B, by rw [e]; rfl, ⟨h1, g1⟩, g2⟩
theorem onT_edge : ∀ {is : List ι} {x z : Nat}, Trail ed x is z → ∀ i ∈ is, onT ed x is (ed i).1 ∧ onT ed x is (ed i).2
  | j :: is, x, z, ⟨h1, h2⟩, i, hi => by
    rcases List.mem_cons.mp hi with rfl | hi
    · exact ⟨.inl h1, .inr onT_start⟩
    · obtain ⟨g1, g2⟩ := onT_edge h2 i hi
      exact ⟨.inr g1, .inr g2⟩
theorem extend : ∀ (n : Nat) (R T : List ι) (x y : Nat), R.length ≤ n → Trail ed x T y → (∀ u, bal (R.map ed) u = 0) → Conn ((T ++ R).map ed) x → ∃ T', Trail ed x T' y ∧ (T ++ R).Perm T'
  | n, [], T, x, y, hn, ht, hb, hc => ⟨T, ht, by rw [List.append_nil]⟩
  | 0, i :: R, T, x, y, hn, ht, hb, hc => absurd hn (by simp)
  | n + 1, i :: R, T, x, y, hn, ht, hb, hc => by
    -- an edge of the rest begins or ends at the trail
    have touch : ∃ j ∈ i :: R, onT ed x T (ed j).1 ∨ onT ed x T (ed j).2 := by
      refine Classical.byContradiction fun no => ?_
      have no' : ∀ j ∈ i :: R, ¬ onT ed x T (ed j).1 ∧ ¬ onT ed x T (ed j).2 := fun j hj => ⟨fun q => no ⟨j, hj, .inl q⟩, fun q => no ⟨j, hj, .inr q⟩⟩
      have cl : ∀ u, Reach ((T ++ (i :: R)).map ed) x u → onT ed x T u := by
        intro u r
        have both : ∀ e ∈ (T ++ (i :: R)).map ed, (onT ed x T e.1 → onT ed x T e.2) ∧ (onT ed x T e.2 → onT ed x T e.1) := by
          intro e he
          obtain ⟨j, hj, rfl⟩ := List.mem_map.mp he
          rcases List.mem_append.mp hj with hj | hj
          · obtain ⟨g1, g2⟩ := onT_edge ht j hj
            exact ⟨fun _ => g2, fun _ => g1⟩
          · exact ⟨fun q => absurd q (no' j hj).1, fun q => absurd q (no' j hj).2⟩
        induction r with
        | base => exact onT_start
        | fwd m _ ih => exact (both _ m).1 ih
        | bwd m _ ih => exact (both _ m).2 ih
      exact (no' i (by simp)).1 (cl _ (hc (ed i) (List.mem_map.mpr ⟨i, by simp, rfl⟩)))
    obtain ⟨v, hv, j, hj, ej⟩ : ∃ v, onT ed x T v ∧ ∃ j ∈ i :: R, (ed j).1 = v := by
      obtain ⟨j, hj, q | q⟩ := touch
      · exact ⟨_, q, j, hj, rfl⟩
      · exact ⟨_, q, bal_begin (by rw [hb]; exact Int.le_refl 0) ⟨j, hj, rfl⟩⟩
    obtain ⟨C, z, R', w1, w2, w3⟩ := walk (ed := ed) _ (i :: R) v rfl
    have hz : z = v := by
      have b1 : bal ((C ++ R').map ed) z = 0 := by rw [← hb z]; exact (bal_perm z (w2.map ed)).symm
      rw [List.map_append, bal_app, trail_bal z w1, dl_self] at b1
      have b2 := bal_le (ed := ed) w3
      by_cases e : z = v
      · exact e
      · rw [dl_ne (Ne.symm e)] at b1; omega
    subst hz
    have hC : C ≠ [] := by
      intro e
      subst e
      exact w3 j (w2.mem_iff.mp hj) ej
    obtain ⟨A, B, rfl, t1, t2⟩ := onT_split ht hv
    have lR : R'.length ≤ n := by
      have l := w2.length_eq
      rw [List.length_append] at l
      have : 0 < C.length := List.length_pos_iff.mpr hC
      omega
    have pm : ((A ++ B) ++ (i :: R)).Perm ((A ++ (C ++ B)) ++ R') := by
      have p1 : ((A ++ B) ++ (i :: R)).Perm ((A ++ B) ++ (C ++ R')) := w2.append_left _
      refine p1.trans ?_
      rw [List.append_assoc, List.append_assoc, List.append_assoc]
      refine List.Perm.append_left A ?_
      rw [← List.append_assoc, ← List.append_assoc]
      exact (List.perm_append_comm).append_right R'
    have hb' : ∀ u, bal (R'.map ed) u = 0 := fun u => by
      have b1 : bal ((C ++ R').map ed) u = 0 := by rw [← hb u]; exact (bal_perm u (w2.map ed)).symm
      rw [List.map_append, bal_app, trail_bal u w1] at b1
      omega
    obtain ⟨T', q1, q2⟩ := extend n R' (A ++ (C ++ B)) x y lR (trail_app t1 (trail_app w1 t2)) hb' fun e he => by
      have he' := (pm.map ed).mem_iff.mpr he
      exact (hc e he').perm (pm.map ed)
    exact ⟨T', q1, pm.trans q2⟩
theorem euler_suf {E : List ι} {x : Nat} (h : From (E.map ed) x) (hc : Conn (E.map ed) x) : ∃ T y, Trail ed x T y ∧ E.Perm T := by
  obtain ⟨y, hy⟩ := h
  obtain ⟨T, z, R, w1, w2, w3⟩ := walk (ed := ed) _ E x rfl
  have b : ∀ u, bal (R.map ed) u = (dl x u - dl y u) - (dl x u - dl z u) := fun u => by
    have := bal_perm u (w2.map ed)
    rw [hy u, List.map_append, bal_app, trail_bal u w1] at this
    omega
  have hz : z = y := by
    have b1 := b z
    have b2 := bal_le (ed := ed) w3
    rw [dl_self] at b1
    by_cases e : z = y
    · exact e
    · rw [dl_ne (Ne.symm e)] at b1; omega
  subst hz
  obtain ⟨T', q1, q2⟩ := extend R.length R T x z (Nat.le_refl _) w1 (fun u => by rw [b u]; omega) fun e he => (hc e ((w2.map ed).mem_iff.mpr he)).perm (w2.map ed)
  exact ⟨T', z, q1, w2.trans q2⟩
theorem trail_conn : ∀ {T : List ι} {x y : Nat} {E : List Edge}, Trail ed x T y → (∀ i ∈ T, ed i ∈ E) → ∀ x0, Reach E x0 x → ∀ i ∈ T, Reach E x0 (ed i).1
  | j :: T, x, y, E, ⟨h1, h2⟩, hm, x0, r, i, hi => by
    rw [← h1] at r
    rcases List.mem_cons.mp hi with rfl | hi
    · exact r
    · exact trail_conn h2 (fun k hk => hm k (by simp [hk])) x0 (.fwd (hm j (by simp)) r) i hi
theorem euler_nec {E T : List ι} {x y : Nat} (t : Trail ed x T y) (p : E.Perm T) : From (E.map ed) x ∧ Conn (E.map ed) x := by
  refine ⟨⟨y, fun u => by rw [bal_perm u (p.map ed), trail_bal u t]⟩, fun e he => ?_⟩
  obtain ⟨i, hi, rfl⟩ := List.mem_map.mp he
  exact trail_conn t (fun k hk => List.mem_map.mpr ⟨k, p.mem_iff.mpr hk, rfl⟩) x .base i (p.mem_iff.mp hi)
end
end K20

/-! K20g: what the defs promise. -/
namespace K20
open PySem PySem.Spec PyProof.Rows L2 PL
abbrev T (s : Str) : D := .v (.str s)
abbrev N (i : Int) : D := .v (.int i)
abbrev B (b : Bool) : D := .v (.bl b)
abbrev Nn (n : Nat) : D := .v (.int n)
abbrev sgn (c : Nat) : Str := ⟨#[c]⟩
def hdc (w : Str) : Nat := w.cps.toList.headD 0
def tlc (w : Str) : Nat := w.cps.toList.getLastD 0
abbrev edW (w : Str) : Edge := (hdc w, tlc w)
def Low (w : Str) : Prop := ∀ c ∈ w.cps.toList, 97 ≤ c ∧ c ≤ 122
def Wd (w : Str) : Prop := 1 ≤ w.length ∧ w.length ≤ 12 ∧ Low w
def Book (ws : List Str) : Prop := ws.length ≤ 60 ∧ (∀ w ∈ ws, Wd w) ∧ ws.Pairwise fun a b => strLt a b = true
def isOrd (ns : List Int) (n : Nat) : Bool := decide (ns.mergeSort (fun a b => decide (a ≤ b)) = (List.range n).map fun (i : Nat) => (i : Int))
def at0 (ws : List Str) (i : Int) : Str := ws.getD i.toNat ⟨#[]⟩
def links (ws : List Str) (ns : List Int) : Bool := (ns.zip (ns.drop 1)).all fun p => tlc (at0 ws p.1) == hdc (at0 ws p.2)
def isChain (ws : List Str) (ns : List Int) : Bool := isOrd ns ws.length && links ws ns
def g_is_integer (ds : List D) (R : D → Prop) : Prop := ∃ i, ds = [N i] ∧ R (B true)
def g_is_within (ds : List D) (R : D → Prop) : Prop := ∃ i a b, ds = [N i, N a, N b] ∧ R (B (decide (a ≤ i ∧ i ≤ b)))
def g_is_letters (ds : List D) (R : D → Prop) : Prop := ∃ w a b, ds = [T w, N a, N b] ∧ Low w ∧ w.length ≤ 12 ∧ R (B (decide (a ≤ w.length ∧ (w.length : Int) ≤ b)))
def g_is_word (ds : List D) (R : D → Prop) : Prop := ∃ w, ds = [T w] ∧ Wd w ∧ R (B true)
def g_is_book (ds : List D) (R : D → Prop) : Prop := ∃ z ws, ds = [.tup z (ws.map T)] ∧ Book ws ∧ R (B true)
def g_check_book (ds : List D) (R : D → Prop) : Prop := ∃ z ws, ds = [.tup z (ws.map T)] ∧ Book ws ∧ R (.v .non)
def g_are_within (ds : List D) (R : D → Prop) : Prop := (∃ z, ∃ ns : List Int, ∃ a b, ds = [.tup z (ns.map N), N a, N b] ∧ ns.length ≤ 60 ∧ R (B (ns.all fun i => decide (a ≤ i ∧ i ≤ b)))) ∨ ∃ l a b, ds = [.lst l, N a, N b] ∧ R (B false)
def g_is_order (ds : List D) (R : D → Prop) : Prop := (∃ z, ∃ ns : List Int, ∃ n, ds = [.tup z (ns.map N), Nn n] ∧ ns.length ≤ 60 ∧ n ≤ 60 ∧ R (B (isOrd ns n))) ∨ ∃ l n, ds = [.lst l, Nn n] ∧ R (B false)
def g_does_hook (ds : List D) (R : D → Prop) : Prop := ∃ w v, ds = [T w, T v] ∧ Wd w ∧ Wd v ∧ R (B (tlc w == hdc v))
def g_is_chain (ds : List D) (R : D → Prop) : Prop := ∃ z ws d, ds = [.tup z (ws.map T), d] ∧ Book ws ∧ ((∃ z, ∃ ns : List Int, d = .tup z (ns.map N) ∧ ns.length ≤ 60 ∧ R (B (isChain ws ns))) ∨ ∃ l, d = .lst l ∧ R (B false))
/-- the letters out of balance -/
def Odd (E : List Edge) (L : List Nat) : Prop := L.Nodup ∧ ∀ c, c ∈ L ↔ bal E c ≠ 0
def wordsD (ws : List Str) (d : D) : Prop := d = .lst (ws.map T) ∨ ∃ z, d = .tup z (ws.map T)
def g_surplus_of (ds : List D) (R : D → Prop) : Prop := ∃ d ws, ds = [d] ∧ wordsD ws d ∧ ws.length ≤ 60 ∧ (∀ w ∈ ws, Wd w) ∧ ∀ L, Odd (ws.map edW) L → R (.dic (L.map fun c => .inr (sgn c)) (L.map fun c => N (bal (ws.map edW) c)))
open Classical in
noncomputable def hangs (ws : List Str) (c : Nat) : List Nat := (List.range ws.length).filter fun i => decide (Reach (ws.map edW) c (hdc (ws.getD i ⟨#[]⟩)))
def g_together_with (ds : List D) (R : D → Prop) : Prop := ∃ d ws c, ds = [d, T (sgn c)] ∧ wordsD ws d ∧ ws.length ≤ 60 ∧ (∀ w ∈ ws, Wd w) ∧ R (.lst ((hangs ws c).map Nn))
def Even (E : List Edge) : Prop := ∃ x, From E x
open Classical in
def g_are_even_enough (ds : List D) (R : D → Prop) : Prop := ∃ d ws, ds = [d] ∧ wordsD ws d ∧ ws.length ≤ 60 ∧ (∀ w ∈ ws, Wd w) ∧ R (B (decide (Even (ws.map edW))))
open Classical in
def g_can_go_on (ds : List D) (R : D → Prop) : Prop := ∃ d ws c, ds = [d, T (sgn c)] ∧ wordsD ws d ∧ ws.length ≤ 60 ∧ (∀ w ∈ ws, Wd w) ∧ R (B (decide (From (ws.map edW) c ∧ Conn (ws.map edW) c)))
def Way (E : List Edge) : Prop := ∃ x, From E x ∧ Conn E x
def WayF {ι : Type} (ed : ι → Edge) (left : List ι) (c : Nat) : Prop := From (left.map ed) c ∧ Conn (left.map ed) c
/-- k may be taken next -/
def Next {ι : Type} [DecidableEq ι] (ed : ι → Edge) (left : List ι) (k : ι) : Prop := WayF ed (left.erase k) (ed k).2
abbrev wsI (ws : List Str) (i : Nat) : Str := ws.getD i ⟨#[]⟩
abbrev edI (ws : List Str) (i : Nat) : Edge := edW (wsI ws i)
/-- the first is the least that may begin -/
def Least (ws : List Str) (ns : List Nat) : Prop := ∀ k, ns.head? = some k → ∀ j, j < k → ¬ Next (edI ws) (List.range ws.length) j
def g_chain (ds : List D) (R : D → Prop) : Prop := ∃ z ws, ds = [.tup z (ws.map T)] ∧ Book ws ∧ (Way (ws.map edW) → ∀ ns : List Nat, isChain ws (ns.map fun (i : Nat) => (i : Int)) = true → Least ws ns → R (.tup false ((ns.map fun (i : Nat) => (i : Int)).map N))) ∧ (¬ Way (ws.map edW) → R (.v .non))
def lettersS : Str := "abcdefghijklmnopqrstuvwxyz"
def oddS (E : List Edge) : Str := ⟨((List.range 26).map (97 + ·)).filter (fun c => decide (bal E c ≠ 0)) |>.toArray⟩
def g_bar (ds : List D) (R : D → Prop) : Prop := ∃ z w ws, ds = [.tup z ((w :: ws).map T)] ∧ Book (w :: ws) ∧ (Way ((w :: ws).map edW) → R (.v .non)) ∧ (¬ Even ((w :: ws).map edW) → R (.tup false [T "letters", T (oddS ((w :: ws).map edW))])) ∧
  (Even ((w :: ws).map edW) → ¬ Way ((w :: ws).map edW) → R (.tup false [T "apart", .tup false ((hangs (w :: ws) (hdc w)).map Nn)]))
/-! the law's own -/
def g__law_draw (ds : List D) (R : D → Prop) : Prop := ∃ n : Int, ds = [.hand, N n] ∧ 0 < n ∧ n ≤ 1000 ∧ ∀ d : Int, 0 ≤ d → d < n → R (N d)
def g__law_any (ds : List D) (R : D → Prop) : Prop := ∃ d : D, ds = [.hand, d] ∧ ((∃ l, d = .lst l ∧ immL l = true ∧ 0 < l.length ∧ l.length ≤ 60 ∧ ∀ x ∈ l, R x) ∨ ∃ z : Str, d = T z ∧ 0 < z.length ∧ z.length ≤ 60 ∧ ∀ c ∈ z.cps.toList, R (T (sgn c)))
def g__law_mixed (ds : List D) (R : D → Prop) : Prop := ∃ l, ds = [.hand, .lst l] ∧ immL l = true ∧ l.length ≤ 60 ∧ ∀ l', l'.Perm l → R (.lst l')
def g__law_letters (ds : List D) (R : D → Prop) : Prop := ∃ n : Nat, ds = [.hand, Nn n] ∧ 1 ≤ n ∧ n ≤ 26 ∧ ∀ z, Low z → z.length = n → R (T z)
def g__law_walk (ds : List D) (R : D → Prop) : Prop := ∃ z, ∃ n : Nat, ds = [.hand, T z, Nn n] ∧ Low z ∧ 0 < z.length ∧ z.length ≤ 26 ∧ 0 < n ∧ n ≤ 60 ∧ ∀ ws : List Str, ws ≠ [] → ws.length ≤ n → (∀ w ∈ ws, Wd w) → R (.lst (ws.map T))
open Classical in
def g__law_odd (ds : List D) (R : D → Prop) : Prop := ∃ z ws, ds = [.tup z (ws.map T)] ∧ Book ws ∧ R (.tup false [T (oddS (ws.map edW)), B (decide (Even (ws.map edW)))])
def g__law_hanging (ds : List D) (R : D → Prop) : Prop := ∃ z w ws, ds = [.tup z ((w :: ws).map T)] ∧ Book (w :: ws) ∧ R (.tup false ((hangs (w :: ws) (hdc w)).map Nn))
def g__law_is_one (ds : List D) (R : D → Prop) : Prop := ∃ z ws d, ∃ ns : List Int, ds = [.tup z (ws.map T), d] ∧ Book ws ∧ (d = .lst (ns.map N) ∨ ∃ z, d = .tup z (ns.map N)) ∧ ns.length ≤ 60 ∧ R (B (isChain ws ns))
def g__law_is_right (ds : List D) (R : D → Prop) : Prop := ds = [.hand] ∧ R (B true)
end K20

set_option maxHeartbeats 4000000
namespace K20
open PySem PySem.Spec PyProof.Rows L2 PL
def topS (i : Nat) : Stmt := PySem.Challenge.pw_letterfair_k20_whole_chains_of_up_to_six.main.body.getD i (.Pass ⟨0, 0, 0, 0⟩)
theorem bt_all : bootBuiltins "all" = some (.builtin "all") := by decide +kernel
theorem bt_bool : bootBuiltins "bool" = some (.type "bool") := by decide +kernel
theorem bt_dict : bootBuiltins "dict" = some (.type "dict") := by decide +kernel
theorem bt_int : bootBuiltins "int" = some (.type "int") := by decide +kernel
theorem bt_isinstance : bootBuiltins "isinstance" = some (.builtin "isinstance") := by decide +kernel
theorem bt_len : bootBuiltins "len" = some (.builtin "len") := by decide +kernel
theorem bt_list : bootBuiltins "list" = some (.type "list") := by decide +kernel
theorem bt_sorted : bootBuiltins "sorted" = some (.builtin "sorted") := by decide +kernel
theorem bt_str : bootBuiltins "str" = some (.type "str") := by decide +kernel
theorem bt_tuple : bootBuiltins "tuple" = some (.type "tuple") := by decide +kernel
structure Facts (mg : Str → Option Value) : Prop where
  m_all : mg "all" = none
  m_bool : mg "bool" = none
  m_dict : mg "dict" = none
  m_enumerate : mg "enumerate" = none
  m_int : mg "int" = none
  m_isinstance : mg "isinstance" = none
  m_len : mg "len" = none
  m_list : mg "list" = none
  m_range : mg "range" = none
  m_sorted : mg "sorted" = none
  m_str : mg "str" = none
  m_tuple : mg "tuple" = none
  m_zip : mg "zip" = none
  LETTERS : ∃ u, mg "LETTERS" = some u ∧ RelV (.str "abcdefghijklmnopqrstuvwxyz") u
  MOST_LETTERS : ∃ u, mg "MOST_LETTERS" = some u ∧ RelV (.int 12) u
  MOST_WORDS : ∃ u, mg "MOST_WORDS" = some u ∧ RelV (.int 60) u
/-! ### is_integer -/
abbrev s_is_integer : Stmt := topS 7
theorem sc_is_integer : FnScope ["thing"] ["thing"] (defScope s_is_integer) := ⟨rfl, rfl, rfl, by decide +kernel, rfl, by decide +kernel, by decide +kernel⟩
def w_is_integer : WS :=
    (wRet (wAndV (wL kInst (wCons (wVar 0) (wCons (wC (.ty "int")) wNil))) (wU kNot (wL kInst (wCons (wVar 0) (wCons (wC (.ty "bool")) wNil))))))
theorem b_is_integer {P : Program} {w : World} {K : PySem.W.Frag} {mg : Str → Option Value} {base : Heap} {h : Hd} {f : Addr} (Fa : Facts mg) (cdv : Value) (A : Around) (outer : List Env) (s : Shared) (H : Hp) (E : XK) (hr : Room 0 (A.deeper (envOfC "is_integer" (defScope s_is_integer) s.heap.objs.size f cdv))) :
    PSs (cxOf CX0 P w K mg base ["thing"] "is_integer" (defScope s_is_integer) f cdv A outer s H E).nox (defBody s_is_integer) (tS h w_is_integer) :=
    (qone (qret (pand (pf_p (pcb call_isi s_inst (by rfl) Fa.m_isinstance bt_isinstance (pa_cons_p (pvar (pv 0)) (pa_cons_p (pf_p (pconst (pe_bltn (v := .ty "int") (by rfl) Fa.m_int bt_int rfl))) (paf_p panil))))) (pone (pnot (pf_p (pcb call_isi s_inst (by rfl) Fa.m_isinstance bt_isinstance (pa_cons_p (pvar (pv 0)) (pa_cons_p (pf_p (pconst (pe_bltn (v := .ty "bool") (by rfl) Fa.m_bool bt_bool rfl))) (paf_p panil))))))))))
theorem c_is_integer {P : Program} {w : World} {K : PySem.W.Frag} {mg : Str → Option Value} {base : Heap} {f : Addr} {fd : FuncData} (F : Fun K "is_integer" "is_integer" s_is_integer f fd) (m : mg "is_integer" = some (.ref f)) (Fa : Facts mg) (len : ∀ ds R, g_is_integer ds R → ds.length = 1) (law : ∀ ds R, g_is_integer ds R → w_is_integer { nx := fun _ => R (.v .non), rt := R } (startR ["thing"] ds)) : Cal P w K mg base 1 "is_integer" ["thing"] g_is_integer :=
  ⟨f, fd, m, F.kp, F.binds fun _ _ _ _ _ _ us hl => match us, hl with | [_], _ => rfl, fun h => def_ok F sc_is_integer len (fun cdv A outer s H E hr => b_is_integer Fa cdv A outer s H E hr) law⟩
/-! ### is_within -/
abbrev s_is_within : Stmt := topS 8
theorem sc_is_within : FnScope ["thing", "least", "most"] ["thing", "least", "most"] (defScope s_is_within) := ⟨rfl, rfl, rfl, by decide +kernel, rfl, by decide +kernel, by decide +kernel⟩
def w_is_within : WS :=
    (wRet (wAndV (wL g_is_integer (wCons (wVar 0) wNil)) (wChain kLe kLe (wVar 1) (wVar 0) (wVar 2))))
theorem b_is_within {P : Program} {w : World} {K : PySem.W.Frag} {mg : Str → Option Value} {base : Heap} {h : Hd} {f : Addr} (Fa : Facts mg) (C_is_integer : Cal P w K mg base 1 "is_integer" ["thing"] g_is_integer) (cdv : Value) (A : Around) (outer : List Env) (s : Shared) (H : Hp) (E : XK) (hr : Room 1 (A.deeper (envOfC "is_within" (defScope s_is_within) s.heap.objs.size f cdv))) :
    PSs (cxOf CX0 P w K mg base ["thing", "least", "most"] "is_within" (defScope s_is_within) f cdv A outer s H E).nox (defBody s_is_within) (tS h w_is_within) :=
    (qone (qret (pand (pf_p (pcall C_is_integer (hr.mono (by decide)) (by rfl) (pa_cons_p (pvar (pv 0)) (paf_p panil)))) (pone (pchain o_le o_le s_le s_le (pvar (pv 1)) (pvar (pv 0)) (pvar (pv 2)))))))
theorem c_is_within {P : Program} {w : World} {K : PySem.W.Frag} {mg : Str → Option Value} {base : Heap} {f : Addr} {fd : FuncData} (F : Fun K "is_within" "is_within" s_is_within f fd) (m : mg "is_within" = some (.ref f)) (Fa : Facts mg) (C_is_integer : Cal P w K mg base 1 "is_integer" ["thing"] g_is_integer) (len : ∀ ds R, g_is_within ds R → ds.length = 3) (law : ∀ ds R, g_is_within ds R → w_is_within { nx := fun _ => R (.v .non), rt := R } (startR ["thing", "least", "most"] ds)) : Cal P w K mg base 2 "is_within" ["thing", "least", "most"] g_is_within :=
  ⟨f, fd, m, F.kp, F.binds fun _ _ _ _ _ _ us hl => match us, hl with | [_, _, _], _ => rfl, fun h => def_ok F sc_is_within len (fun cdv A outer s H E hr => b_is_within Fa C_is_integer cdv A outer s H E hr) law⟩
/-! ### is_letters -/
abbrev s_is_letters : Stmt := topS 9
theorem sc_is_letters : FnScope ["thing", "least", "most", "sign"] ["thing", "least", "most"] (defScope s_is_letters) := ⟨rfl, rfl, rfl, by decide +kernel, rfl, by decide +kernel, by decide +kernel⟩
def w_is_letters : WS :=
    (wRet (wAndV (wL kInst (wCons (wVar 0) (wCons (wC (.ty "str")) wNil))) (wAndV (wChain kLe kLe (wVar 1) (wL kLen (wCons (wVar 0) wNil)) (wVar 2)) (wL kAll (wCons (wLc [3] (wSeq (wHv 0)) (wN 3) wYes (wB kIn (wVar 3) (wC (.str "abcdefghijklmnopqrstuvwxyz")))) wNil)))))
theorem b_is_letters {P : Program} {w : World} {K : PySem.W.Frag} {mg : Str → Option Value} {base : Heap} {h : Hd} {f : Addr} (Fa : Facts mg) (cdv : Value) (A : Around) (outer : List Env) (s : Shared) (H : Hp) (E : XK) (hr : Room 0 (A.deeper (envOfC "is_letters" (defScope s_is_letters) s.heap.objs.size f cdv))) :
    PSs (cxOf CX0 P w K mg base ["thing", "least", "most", "sign"] "is_letters" (defScope s_is_letters) f cdv A outer s H E).nox (defBody s_is_letters) (tS h w_is_letters) :=
    (qone (qret (pand (pf_p (pcb call_isi s_inst (by rfl) Fa.m_isinstance bt_isinstance (pa_cons_p (pvar (pv 0)) (pa_cons_p (pf_p (pconst (pe_bltn (v := .ty "str") (by rfl) Fa.m_str bt_str rfl))) (paf_p panil))))) (pand (pf_p (pchain o_le o_le s_le s_le (pvar (pv 1)) (pf_p (pxb x_len (by rfl) Fa.m_len bt_len (pa_cons_p (pvar (pv 0)) (paf_p panil)))) (pvar (pv 2)))) (pone (pcb (cr_all rfl) s_all (by rfl) Fa.m_all bt_all (pa_cons_p (pf_p (plc rfl sc_is_letters.nd (it_seq (ph_v (i := 0) (pv 0))) (blkOk_by (own := [("sign", 3)]) (by show blkC ["thing", "least", "most", "sign"] (defScope s_is_letters) _ _ = true; decide +kernel)) (fun _ _ _ _ _ => (tg_name (i := 3) sc_is_letters.nd rfl (by first | exact .inl rfl | exact .inr rfl))) (fun _ _ _ _ _ => ptsnil) (fun _ _ _ _ _ => (pc (o_in (hu_of hr)) s_in (pvar (pv 3)) (pf_p (pglob (by rfl) Fa.LETTERS)) rfl)))) (paf_p panil))))))))
theorem c_is_letters {P : Program} {w : World} {K : PySem.W.Frag} {mg : Str → Option Value} {base : Heap} {f : Addr} {fd : FuncData} (F : Fun K "is_letters" "is_letters" s_is_letters f fd) (m : mg "is_letters" = some (.ref f)) (Fa : Facts mg) (len : ∀ ds R, g_is_letters ds R → ds.length = 3) (law : ∀ ds R, g_is_letters ds R → w_is_letters { nx := fun _ => R (.v .non), rt := R } (startR ["thing", "least", "most", "sign"] ds)) : Cal P w K mg base 1 "is_letters" ["thing", "least", "most"] g_is_letters :=
  ⟨f, fd, m, F.kp, F.binds fun _ _ _ _ _ _ us hl => match us, hl with | [_, _, _], _ => rfl, fun h => def_ok F sc_is_letters len (fun cdv A outer s H E hr => b_is_letters Fa cdv A outer s H E hr) law⟩
/-! ### is_word -/
abbrev s_is_word : Stmt := topS 10
theorem sc_is_word : FnScope ["thing"] ["thing"] (defScope s_is_word) := ⟨rfl, rfl, rfl, by decide +kernel, rfl, by decide +kernel, by decide +kernel⟩
def w_is_word : WS :=
    (wRet (wL g_is_letters (wCons (wVar 0) (wCons (wC (.int 1)) (wCons (wC (.int 12)) wNil)))))
theorem b_is_word {P : Program} {w : World} {K : PySem.W.Frag} {mg : Str → Option Value} {base : Heap} {h : Hd} {f : Addr} (Fa : Facts mg) (C_is_letters : Cal P w K mg base 1 "is_letters" ["thing", "least", "most"] g_is_letters) (cdv : Value) (A : Around) (outer : List Env) (s : Shared) (H : Hp) (E : XK) (hr : Room 1 (A.deeper (envOfC "is_word" (defScope s_is_word) s.heap.objs.size f cdv))) :
    PSs (cxOf CX0 P w K mg base ["thing"] "is_word" (defScope s_is_word) f cdv A outer s H E).nox (defBody s_is_word) (tS h w_is_word) :=
    (qone (qret (pcall C_is_letters (hr.mono (by decide)) (by rfl) (pa_cons_p (pvar (pv 0)) (pa_cons_p (pf_p (pconst pe_int)) (pa_cons_p (pf_p (pglob (by rfl) Fa.MOST_LETTERS)) (paf_p panil)))))))
theorem c_is_word {P : Program} {w : World} {K : PySem.W.Frag} {mg : Str → Option Value} {base : Heap} {f : Addr} {fd : FuncData} (F : Fun K "is_word" "is_word" s_is_word f fd) (m : mg "is_word" = some (.ref f)) (Fa : Facts mg) (C_is_letters : Cal P w K mg base 1 "is_letters" ["thing", "least", "most"] g_is_letters) (len : ∀ ds R, g_is_word ds R → ds.length = 1) (law : ∀ ds R, g_is_word ds R → w_is_word { nx := fun _ => R (.v .non), rt := R } (startR ["thing"] ds)) : Cal P w K mg base 2 "is_word" ["thing"] g_is_word :=
  ⟨f, fd, m, F.kp, F.binds fun _ _ _ _ _ _ us hl => match us, hl with | [_], _ => rfl, fun h => def_ok F sc_is_word len (fun cdv A outer s H E hr => b_is_word Fa C_is_letters cdv A outer s H E hr) law⟩
/-! ### is_book -/
abbrev s_is_book : Stmt := topS 11
theorem sc_is_book : FnScope ["thing", "one", "other"] ["thing"] (defScope s_is_book) := ⟨rfl, rfl, rfl, by decide +kernel, rfl, by decide +kernel, by decide +kernel⟩
def w_is_book : WS :=
    (wSeqS (wIfS (wOrT (wNotT (wTB (wL kInst (wCons (wVar 0) (wCons (wC (.ty "tuple")) wNil))))) (wOrT (wTB (wB kGt (wL kLen (wCons (wVar 0) wNil)) (wC (.int 60)))) (wNotT (wTB (wL kAll (wCons (wLc [1] (wSeq (wHv 0)) (wN 1) wYes (wL g_is_word (wCons (wVar 1) wNil))) wNil)))))) (wRet (wC (.bl false))) wNext)
    (wRet (wL kAll (wCons (wLc [1, 2] (wZip (wHv 0) (wSl (wVar 0) (wPart (wC (.int 1))) wNoPart)) (wNT [1, 2]) wYes (wB kLt (wVar 1) (wVar 2))) wNil))))
theorem b_is_book {P : Program} {w : World} {K : PySem.W.Frag} {mg : Str → Option Value} {base : Heap} {h : Hd} {f : Addr} (Fa : Facts mg) (C_is_word : Cal P w K mg base 2 "is_word" ["thing"] g_is_word) (cdv : Value) (A : Around) (outer : List Env) (s : Shared) (H : Hp) (E : XK) (hr : Room 2 (A.deeper (envOfC "is_book" (defScope s_is_book) s.heap.objs.size f cdv))) :
    PSs (cxOf CX0 P w K mg base ["thing", "one", "other"] "is_book" (defScope s_is_book) f cdv A outer s H E).nox (defBody s_is_book) (tS h w_is_book) :=
    (qcons (qif (ptor (ptnot (ptb (pf_p (pcb call_isi s_inst (by rfl) Fa.m_isinstance bt_isinstance (pa_cons_p (pvar (pv 0)) (pa_cons_p (pf_p (pconst (pe_bltn (v := .ty "tuple") (by rfl) Fa.m_tuple bt_tuple rfl))) (paf_p panil))))))) (ptor (ptc o_gt s_gt (pf_p (pxb x_len (by rfl) Fa.m_len bt_len (pa_cons_p (pvar (pv 0)) (paf_p panil)))) (pf_p (pglob (by rfl) Fa.MOST_WORDS)) (nomark _)) (ptor1 (ptnot (ptb (pf_p (pcb (cr_all rfl) s_all (by rfl) Fa.m_all bt_all (pa_cons_p (pf_p (plc rfl sc_is_book.nd (it_seq (ph_v (i := 0) (pv 0))) (blkOk_by (own := [("one", 1)]) (by show blkC ["thing", "one", "other"] (defScope s_is_book) _ _ = true; decide +kernel)) (fun _ _ _ _ _ => (tg_name (i := 1) sc_is_book.nd rfl (by first | exact .inl rfl | exact .inr rfl))) (fun _ _ _ _ _ => ptsnil) (fun _ _ _ _ _ => (pcall C_is_word (hr.mono (by decide)) (by rfl) (pa_cons_p (pvar (pv 1)) (paf_p panil)))))) (paf_p panil))))))))).pt (qone (qret (pconst pe_bl))) qnil)
    (qone (qret (pcb (cr_all rfl) s_all (by rfl) Fa.m_all bt_all (pa_cons_p (pf_p (plc rfl sc_is_book.nd (it_zip (by rfl) Fa.m_zip (ph_v (i := 0) (pv 0)) (ph_f (psl (pvar (pv 0)) (po1 (pf_p (pconst pe_int))) po0))) (blkOk_by (own := [("one", 1), ("other", 2)]) (by show blkC ["thing", "one", "other"] (defScope s_is_book) _ _ = true; decide +kernel)) (fun _ _ _ _ _ => (tg_tup rfl (tgs_cons (tg_name (i := 1) sc_is_book.nd rfl (by first | exact .inl rfl | exact .inr rfl)) (tgs_cons (tg_name (i := 2) sc_is_book.nd rfl (by first | exact .inl rfl | exact .inr rfl)) tgs_nil)))) (fun _ _ _ _ _ => ptsnil) (fun _ _ _ _ _ => (pc o_lt s_lt (pvar (pv 1)) (pvar (pv 2)) (nomark _))))) (paf_p panil))))))
theorem c_is_book {P : Program} {w : World} {K : PySem.W.Frag} {mg : Str → Option Value} {base : Heap} {f : Addr} {fd : FuncData} (F : Fun K "is_book" "is_book" s_is_book f fd) (m : mg "is_book" = some (.ref f)) (Fa : Facts mg) (C_is_word : Cal P w K mg base 2 "is_word" ["thing"] g_is_word) (len : ∀ ds R, g_is_book ds R → ds.length = 1) (law : ∀ ds R, g_is_book ds R → w_is_book { nx := fun _ => R (.v .non), rt := R } (startR ["thing", "one", "other"] ds)) : Cal P w K mg base 3 "is_book" ["thing"] g_is_book :=
  ⟨f, fd, m, F.kp, F.binds fun _ _ _ _ _ _ us hl => match us, hl with | [_], _ => rfl, fun h => def_ok F sc_is_book len (fun cdv A outer s H E hr => b_is_book Fa C_is_word cdv A outer s H E hr) law⟩
/-! ### check_book -/
abbrev s_check_book : Stmt := topS 12
theorem sc_check_book : FnScope ["thing"] ["thing"] (defScope s_check_book) := ⟨rfl, rfl, rfl, by decide +kernel, rfl, by decide +kernel, by decide +kernel⟩
def w_check_book : WS :=
    (wIfS (wNotT (wTB (wL g_is_book (wCons (wVar 0) wNil)))) wNever wNext)
theorem b_check_book {P : Program} {w : World} {K : PySem.W.Frag} {mg : Str → Option Value} {base : Heap} {h : Hd} {f : Addr} (Fa : Facts mg) (C_is_book : Cal P w K mg base 3 "is_book" ["thing"] g_is_book) (cdv : Value) (A : Around) (outer : List Env) (s : Shared) (H : Hp) (E : XK) (hr : Room 3 (A.deeper (envOfC "check_book" (defScope s_check_book) s.heap.objs.size f cdv))) :
    PSs (cxOf CX0 P w K mg base ["thing"] "check_book" (defScope s_check_book) f cdv A outer s H E).nox (defBody s_check_book) (tS h w_check_book) :=
    (qone (qif (ptnot (ptb (pf_p (pcall C_is_book (hr.mono (by decide)) (by rfl) (pa_cons_p (pvar (pv 0)) (paf_p panil)))))) (qone qnever) qnil))
theorem c_check_book {P : Program} {w : World} {K : PySem.W.Frag} {mg : Str → Option Value} {base : Heap} {f : Addr} {fd : FuncData} (F : Fun K "check_book" "check_book" s_check_book f fd) (m : mg "check_book" = some (.ref f)) (Fa : Facts mg) (C_is_book : Cal P w K mg base 3 "is_book" ["thing"] g_is_book) (len : ∀ ds R, g_check_book ds R → ds.length = 1) (law : ∀ ds R, g_check_book ds R → w_check_book { nx := fun _ => R (.v .non), rt := R } (startR ["thing"] ds)) : Cal P w K mg base 4 "check_book" ["thing"] g_check_book :=
  ⟨f, fd, m, F.kp, F.binds fun _ _ _ _ _ _ us hl => match us, hl with | [_], _ => rfl, fun h => def_ok F sc_check_book len (fun cdv A outer s H E hr => b_check_book Fa C_is_book cdv A outer s H E hr) law⟩
/-! ### are_within -/
abbrev s_are_within : Stmt := topS 13
theorem sc_are_within : FnScope ["thing", "least", "most", "one"] ["thing", "least", "most"] (defScope s_are_within) := ⟨rfl, rfl, rfl, by decide +kernel, rfl, by decide +kernel, by decide +kernel⟩
def w_are_within : WS :=
    (wRet (wAndV (wL kInst (wCons (wVar 0) (wCons (wC (.ty "tuple")) wNil))) (wL kAll (wCons (wLc [3] (wSeq (wHv 0)) (wN 3) wYes (wL g_is_within (wCons (wVar 3) (wCons (wVar 1) (wCons (wVar 2) wNil))))) wNil))))
theorem b_are_within {P : Program} {w : World} {K : PySem.W.Frag} {mg : Str → Option Value} {base : Heap} {h : Hd} {f : Addr} (Fa : Facts mg) (C_is_within : Cal P w K mg base 2 "is_within" ["thing", "least", "most"] g_is_within) (cdv : Value) (A : Around) (outer : List Env) (s : Shared) (H : Hp) (E : XK) (hr : Room 2 (A.deeper (envOfC "are_within" (defScope s_are_within) s.heap.objs.size f cdv))) :
    PSs (cxOf CX0 P w K mg base ["thing", "least", "most", "one"] "are_within" (defScope s_are_within) f cdv A outer s H E).nox (defBody s_are_within) (tS h w_are_within) :=
    (qone (qret (pand (pf_p (pcb call_isi s_inst (by rfl) Fa.m_isinstance bt_isinstance (pa_cons_p (pvar (pv 0)) (pa_cons_p (pf_p (pconst (pe_bltn (v := .ty "tuple") (by rfl) Fa.m_tuple bt_tuple rfl))) (paf_p panil))))) (pone (pcb (cr_all rfl) s_all (by rfl) Fa.m_all bt_all (pa_cons_p (pf_p (plc rfl sc_are_within.nd (it_seq (ph_v (i := 0) (pv 0))) (blkOk_by (own := [("one", 3)]) (by show blkC ["thing", "least", "most", "one"] (defScope s_are_within) _ _ = true; decide +kernel)) (fun _ _ _ _ _ => (tg_name (i := 3) sc_are_within.nd rfl (by first | exact .inl rfl | exact .inr rfl))) (fun _ _ _ _ _ => ptsnil) (fun _ _ _ _ _ => (pcall C_is_within (hr.mono (by decide)) (by rfl) (pa_cons_p (pvar (pv 3)) (pa_cons_p (pvar (pv 1)) (pa_cons_p (pvar (pv 2)) (paf_p panil)))))))) (paf_p panil)))))))
theorem c_are_within {P : Program} {w : World} {K : PySem.W.Frag} {mg : Str → Option Value} {base : Heap} {f : Addr} {fd : FuncData} (F : Fun K "are_within" "are_within" s_are_within f fd) (m : mg "are_within" = some (.ref f)) (Fa : Facts mg) (C_is_within : Cal P w K mg base 2 "is_within" ["thing", "least", "most"] g_is_within) (len : ∀ ds R, g_are_within ds R → ds.length = 3) (law : ∀ ds R, g_are_within ds R → w_are_within { nx := fun _ => R (.v .non), rt := R } (startR ["thing", "least", "most", "one"] ds)) : Cal P w K mg base 3 "are_within" ["thing", "least", "most"] g_are_within :=
  ⟨f, fd, m, F.kp, F.binds fun _ _ _ _ _ _ us hl => match us, hl with | [_, _, _], _ => rfl, fun h => def_ok F sc_are_within len (fun cdv A outer s H E hr => b_are_within Fa C_is_within cdv A outer s H E hr) law⟩
/-! ### is_order -/
abbrev s_is_order : Stmt := topS 14
theorem sc_is_order : FnScope ["thing", "many"] ["thing", "many"] (defScope s_is_order) := ⟨rfl, rfl, rfl, by decide +kernel, rfl, by decide +kernel, by decide +kernel⟩
def w_is_order : WS :=
    (wRet (wAndV (wL g_are_within (wCons (wVar 0) (wCons (wC (.int 0)) (wCons (wB kSub (wVar 1) (wC (.int 1))) wNil)))) (wAndV (wB kEq (wL kLen (wCons (wVar 0) wNil)) (wVar 1)) (wB kEq (wL kSorted (wCons (wVar 0) wNil)) (wLRg1 (wVar 1))))))
theorem b_is_order {P : Program} {w : World} {K : PySem.W.Frag} {mg : Str → Option Value} {base : Heap} {h : Hd} {f : Addr} (Fa : Facts mg) (C_are_within : Cal P w K mg base 3 "are_within" ["thing", "least", "most"] g_are_within) (cdv : Value) (A : Around) (outer : List Env) (s : Shared) (H : Hp) (E : XK) (hr : Room 3 (A.deeper (envOfC "is_order" (defScope s_is_order) s.heap.objs.size f cdv))) :
    PSs (cxOf CX0 P w K mg base ["thing", "many"] "is_order" (defScope s_is_order) f cdv A outer s H E).nox (defBody s_is_order) (tS h w_is_order) :=
    (qone (qret (pand (pf_p (pcall C_are_within (hr.mono (by decide)) (by rfl) (pa_cons_p (pvar (pv 0)) (pa_cons_p (pf_p (pconst pe_int)) (pa_cons_p (pf_p (pb op_sub s_sub (pvar (pv 1)) (pf_p (pconst pe_int)))) (paf_p panil)))))) (pand (pf_p (pc (op_eqD hr.units) s_eq (pf_p (pxb x_len (by rfl) Fa.m_len bt_len (pa_cons_p (pvar (pv 0)) (paf_p panil)))) (pvar (pv 1)) (nomark _))) (pone (pc (op_eqD hr.units) s_eq (pf_p (pxb (x_sorted rfl hr.units) (by rfl) Fa.m_sorted bt_sorted (pa_cons_p (pvar (pv 0)) (paf_p panil)))) (pf_p (plrg1 rfl (by rfl) Fa.m_list (by rfl) Fa.m_range (pvar (pv 1)))) (nomark _)))))))
theorem c_is_order {P : Program} {w : World} {K : PySem.W.Frag} {mg : Str → Option Value} {base : Heap} {f : Addr} {fd : FuncData} (F : Fun K "is_order" "is_order" s_is_order f fd) (m : mg "is_order" = some (.ref f)) (Fa : Facts mg) (C_are_within : Cal P w K mg base 3 "are_within" ["thing", "least", "most"] g_are_within) (len : ∀ ds R, g_is_order ds R → ds.length = 2) (law : ∀ ds R, g_is_order ds R → w_is_order { nx := fun _ => R (.v .non), rt := R } (startR ["thing", "many"] ds)) : Cal P w K mg base 4 "is_order" ["thing", "many"] g_is_order :=
  ⟨f, fd, m, F.kp, F.binds fun _ _ _ _ _ _ us hl => match us, hl with | [_, _], _ => rfl, fun h => def_ok F sc_is_order len (fun cdv A outer s H E hr => b_is_order Fa C_are_within cdv A outer s H E hr) law⟩
/-! ### does_hook -/
abbrev s_does_hook : Stmt := topS 16
theorem sc_does_hook : FnScope ["one", "other"] ["one", "other"] (defScope s_does_hook) := ⟨rfl, rfl, rfl, by decide +kernel, rfl, by decide +kernel, by decide +kernel⟩
def w_does_hook : WS :=
    (wRet (wB kEq (wB kIx (wVar 0) (wU kNeg (wC (.int 1)))) (wB kIx (wVar 1) (wC (.int 0)))))
theorem b_does_hook {P : Program} {w : World} {K : PySem.W.Frag} {mg : Str → Option Value} {base : Heap} {h : Hd} {f : Addr} (Fa : Facts mg) (cdv : Value) (A : Around) (outer : List Env) (s : Shared) (H : Hp) (E : XK) (hr : Room 0 (A.deeper (envOfC "does_hook" (defScope s_does_hook) s.heap.objs.size f cdv))) :
    PSs (cxOf CX0 P w K mg base ["one", "other"] "does_hook" (defScope s_does_hook) f cdv A outer s H E).nox (defBody s_does_hook) (tS h w_does_hook) :=
    (qone (qret (pc (op_eqD hr.units) s_eq (pix (o_ix (hu_of hr)) s_ix (pvar (pv 0)) (pf_p (pu un_neg s_neg (pf_p (pconst pe_int)))) (fun _ _ => rfl)) (pix (o_ix (hu_of hr)) s_ix (pvar (pv 1)) (pf_p (pconst pe_int)) (fun _ _ => rfl)) (nomark _))))
theorem c_does_hook {P : Program} {w : World} {K : PySem.W.Frag} {mg : Str → Option Value} {base : Heap} {f : Addr} {fd : FuncData} (F : Fun K "does_hook" "does_hook" s_does_hook f fd) (m : mg "does_hook" = some (.ref f)) (Fa : Facts mg) (len : ∀ ds R, g_does_hook ds R → ds.length = 2) (law : ∀ ds R, g_does_hook ds R → w_does_hook { nx := fun _ => R (.v .non), rt := R } (startR ["one", "other"] ds)) : Cal P w K mg base 1 "does_hook" ["one", "other"] g_does_hook :=
  ⟨f, fd, m, F.kp, F.binds fun _ _ _ _ _ _ us hl => match us, hl with | [_, _], _ => rfl, fun h => def_ok F sc_does_hook len (fun cdv A outer s H E hr => b_does_hook Fa cdv A outer s H E hr) law⟩
/-! ### is_chain -/
abbrev s_is_chain : Stmt := topS 17
theorem sc_is_chain : FnScope ["book", "thing", "one", "other"] ["book", "thing"] (defScope s_is_chain) := ⟨rfl, rfl, rfl, by decide +kernel, rfl, by decide +kernel, by decide +kernel⟩
def w_is_chain : WS :=
    (wSeqS (wDrop (wL g_check_book (wCons (wVar 0) wNil)))
    (wSeqS (wIfS (wNotT (wTB (wL g_is_order (wCons (wVar 1) (wCons (wL kLen (wCons (wVar 0) wNil)) wNil))))) (wRet (wC (.bl false))) wNext)
    (wRet (wL kAll (wCons (wLc [2, 3] (wZip (wHv 1) (wSl (wVar 1) (wPart (wC (.int 1))) wNoPart)) (wNT [2, 3]) wYes (wL g_does_hook (wCons (wB kIx (wVar 0) (wVar 2)) (wCons (wB kIx (wVar 0) (wVar 3)) wNil)))) wNil)))))
theorem b_is_chain {P : Program} {w : World} {K : PySem.W.Frag} {mg : Str → Option Value} {base : Heap} {h : Hd} {f : Addr} (Fa : Facts mg) (C_check_book : Cal P w K mg base 4 "check_book" ["thing"] g_check_book) (C_is_order : Cal P w K mg base 4 "is_order" ["thing", "many"] g_is_order) (C_does_hook : Cal P w K mg base 1 "does_hook" ["one", "other"] g_does_hook) (cdv : Value) (A : Around) (outer : List Env) (s : Shared) (H : Hp) (E : XK) (hr : Room 4 (A.deeper (envOfC "is_chain" (defScope s_is_chain) s.heap.objs.size f cdv))) :
    PSs (cxOf CX0 P w K mg base ["book", "thing", "one", "other"] "is_chain" (defScope s_is_chain) f cdv A outer s H E).nox (defBody s_is_chain) (tS h w_is_chain) :=
    (qcons (qdrop (pcall C_check_book (hr.mono (by decide)) (by rfl) (pa_cons_p (pvar (pv 0)) (paf_p panil))))
    (qcons (qif (ptnot (ptb (pf_p (pcall C_is_order (hr.mono (by decide)) (by rfl) (pa_cons_p (pvar (pv 1)) (pa_cons_p (pf_p (pxb x_len (by rfl) Fa.m_len bt_len (pa_cons_p (pvar (pv 0)) (paf_p panil)))) (paf_p panil))))))) (qone (qret (pconst pe_bl))) qnil)
    (qone (qret (pcb (cr_all rfl) s_all (by rfl) Fa.m_all bt_all (pa_cons_p (pf_p (plc rfl sc_is_chain.nd (it_zip (by rfl) Fa.m_zip (ph_v (i := 1) (pv 1)) (ph_f (psl (pvar (pv 1)) (po1 (pf_p (pconst pe_int))) po0))) (blkOk_by (own := [("one", 2), ("other", 3)]) (by show blkC ["book", "thing", "one", "other"] (defScope s_is_chain) _ _ = true; decide +kernel)) (fun _ _ _ _ _ => (tg_tup rfl (tgs_cons (tg_name (i := 2) sc_is_chain.nd rfl (by first | exact .inl rfl | exact .inr rfl)) (tgs_cons (tg_name (i := 3) sc_is_chain.nd rfl (by first | exact .inl rfl | exact .inr rfl)) tgs_nil)))) (fun _ _ _ _ _ => ptsnil) (fun _ _ _ _ _ => (pcall C_does_hook (hr.mono (by decide)) (by rfl) (pa_cons_p (pix (o_ix (hu_of hr)) s_ix (pvar (pv 0)) (pvar (pv 2)) (fun _ _ => rfl)) (pa_cons_p (pix (o_ix (hu_of hr)) s_ix (pvar (pv 0)) (pvar (pv 3)) (fun _ _ => rfl)) (paf_p panil))))))) (paf_p panil)))))))
theorem c_is_chain {P : Program} {w : World} {K : PySem.W.Frag} {mg : Str → Option Value} {base : Heap} {f : Addr} {fd : FuncData} (F : Fun K "is_chain" "is_chain" s_is_chain f fd) (m : mg "is_chain" = some (.ref f)) (Fa : Facts mg) (C_check_book : Cal P w K mg base 4 "check_book" ["thing"] g_check_book) (C_is_order : Cal P w K mg base 4 "is_order" ["thing", "many"] g_is_order) (C_does_hook : Cal P w K mg base 1 "does_hook" ["one", "other"] g_does_hook) (len : ∀ ds R, g_is_chain ds R → ds.length = 2) (law : ∀ ds R, g_is_chain ds R → w_is_chain { nx := fun _ => R (.v .non), rt := R } (startR ["book", "thing", "one", "other"] ds)) : Cal P w K mg base 5 "is_chain" ["book", "thing"] g_is_chain :=
  ⟨f, fd, m, F.kp, F.binds fun _ _ _ _ _ _ us hl => match us, hl with | [_, _], _ => rfl, fun h => def_ok F sc_is_chain len (fun cdv A outer s H E hr => b_is_chain Fa C_check_book C_is_order C_does_hook cdv A outer s H E hr) law⟩
/-! ### surplus_of -/
abbrev s_surplus_of : Stmt := topS 18
theorem sc_surplus_of : FnScope ["words", "found", "word", "letter"] ["words"] (defScope s_surplus_of) := ⟨rfl, rfl, rfl, by decide +kernel, rfl, by decide +kernel, by decide +kernel⟩
def w_surplus_of : WS :=
    (wSeqS (wSet 1 wDic0)
    (wSeqS (wFor (wSeq (wHv 0)) (wN 2) (wSeqS (wStore 1 (wB kIx (wVar 2) (wC (.int 0))) (wB kAdd (wGet (wVar 1) (wB kIx (wVar 2) (wC (.int 0))) (wC (.int 0))) (wC (.int 1))))
    (wStore 1 (wB kIx (wVar 2) (wU kNeg (wC (.int 1)))) (wB kSub (wGet (wVar 1) (wB kIx (wVar 2) (wU kNeg (wC (.int 1)))) (wC (.int 0))) (wC (.int 1))))))
    (wRet (wDcK 1 [3] (wN 3) (wTB (wB kNe (wB kIx (wVar 1) (wVar 3)) (wC (.int 0)))) (wVar 3) (wImm (wB kIx (wVar 1) (wVar 3)))))))
theorem b_surplus_of {P : Program} {w : World} {K : PySem.W.Frag} {mg : Str → Option Value} {base : Heap} {h : Hd} {f : Addr} (Fa : Facts mg) (cdv : Value) (A : Around) (outer : List Env) (s : Shared) (H : Hp) (E : XK) (hr : Room 0 (A.deeper (envOfC "surplus_of" (defScope s_surplus_of) s.heap.objs.size f cdv))) :
    PSs (cxOf CX0 P w K mg base ["words", "found", "word", "letter"] "surplus_of" (defScope s_surplus_of) f cdv A outer s H E).nox (defBody s_surplus_of) (tS h w_surplus_of) :=
    (qcons (qset (i := 1) sc_surplus_of.nd rfl (by first | exact .inl rfl | exact .inr rfl) pdic0)
    (qcons (qfor PassesOwn.never rfl (it_seq (ph_v (i := 0) (pv 0))) (tg_name (i := 2) sc_surplus_of.nd rfl (by first | exact .inl rfl | exact .inr rfl)) (qcons (qstore (i := 1) (hu_of hr) (pv 1) (pix (o_ix (hu_of hr)) s_ix (pvar (pv 2)) (pf_p (pconst pe_int)) (fun _ _ => rfl)) (pb o_add s_add (pget (hu_of hr) (pvar (pv 1)) (pix (o_ix (hu_of hr)) s_ix (pvar (pv 2)) (pf_p (pconst pe_int)) (fun _ _ => rfl)) (pf_p (pconst pe_int)) ⟨rfl, rfl, rfl, rfl⟩) (pf_p (pconst pe_int))))
    (qone (qstore (i := 1) (hu_of hr) (pv 1) (pix (o_ix (hu_of hr)) s_ix (pvar (pv 2)) (pf_p (pu un_neg s_neg (pf_p (pconst pe_int)))) (fun _ _ => rfl)) (pb op_sub s_sub (pget (hu_of hr) (pvar (pv 1)) (pix (o_ix (hu_of hr)) s_ix (pvar (pv 2)) (pf_p (pu un_neg s_neg (pf_p (pconst pe_int)))) (fun _ _ => rfl)) (pf_p (pconst pe_int)) ⟨rfl, rfl, rfl, rfl⟩) (pf_p (pconst pe_int)))))))
    (qone (qret (pdcK rfl sc_surplus_of.nd (pv 1) (blkOk_by (own := [("letter", 3)]) (by show blkC ["words", "found", "word", "letter"] (defScope s_surplus_of) _ _ = true; decide +kernel)) (fun _ _ _ _ _ => (tg_name (i := 3) sc_surplus_of.nd rfl (by first | exact .inl rfl | exact .inr rfl))) (fun _ _ _ _ _ => (ptsone (ptc (op_neD hr.units) s_ne (pix (o_ix (hu_of hr)) s_ix (pvar (pv 1)) (pvar (pv 3)) (fun _ _ => rfl)) (pf_p (pconst pe_int)) (nomark _)))) (fun _ _ _ _ _ => (pvar (pv 3))) (fun _ _ _ _ _ => (pp_f (pix (o_ix (hu_of hr)) s_ix (pvar (pv 1)) (pvar (pv 3)) (fun _ _ => rfl)))))))))
theorem c_surplus_of {P : Program} {w : World} {K : PySem.W.Frag} {mg : Str → Option Value} {base : Heap} {f : Addr} {fd : FuncData} (F : Fun K "surplus_of" "surplus_of" s_surplus_of f fd) (m : mg "surplus_of" = some (.ref f)) (Fa : Facts mg) (len : ∀ ds R, g_surplus_of ds R → ds.length = 1) (law : ∀ ds R, g_surplus_of ds R → w_surplus_of { nx := fun _ => R (.v .non), rt := R } (startR ["words", "found", "word", "letter"] ds)) : Cal P w K mg base 1 "surplus_of" ["words"] g_surplus_of :=
  ⟨f, fd, m, F.kp, F.binds fun _ _ _ _ _ _ us hl => match us, hl with | [_], _ => rfl, fun h => def_ok F sc_surplus_of len (fun cdv A outer s H E hr => b_surplus_of Fa cdv A outer s H E hr) law⟩
/-! ### together_with -/
abbrev s_together_with : Stmt := topS 19
theorem sc_together_with : FnScope ["words", "letters", "letter", "known", "is_going", "word", "more", "at"] ["words", "letters"] (defScope s_together_with) := ⟨rfl, rfl, rfl, by decide +kernel, rfl, by decide +kernel, by decide +kernel⟩
def w_together_with : WS :=
    (wSeqS (wUnp2 3 4 (wTup (wCons (wDc [2] (wSeq (wHv 1)) (wN 2) wYes (wVar 2) (wC (.bl true))) (wCons (wC (.bl true)) wNil))))
    (wSeqS (wWhile (wTB (wVar 4)) (wSeqS (wSet 6 (wLc [5] (wSeq (wHv 0)) (wN 5) (wTB (wB kNe (wB kIn (wB kIx (wVar 5) (wC (.int 0))) (wVar 3)) (wB kIn (wB kIx (wVar 5) (wU kNeg (wC (.int 1)))) (wVar 3)))) (wImm (wVar 5))))
    (wSeqS (wSet 4 (wB kGt (wL kLen (wCons (wVar 6) wNil)) (wC (.int 0))))
    (wLock 6 (wFor (wSeq (wHv 6)) (wN 5) (wAsg (wTup (wCons (wC (.bl true)) (wCons (wC (.bl true)) wNil))) (wMT2 (wSub 3 (wB kIx (wVar 5) (wC (.int 0)))) (wSub 3 (wB kIx (wVar 5) (wU kNeg (wC (.int 1))))))))))))
    (wRet (wLc [7, 5] (wEnum (wHv 0)) (wNT [7, 5]) (wTB (wB kIn (wB kIx (wVar 5) (wC (.int 0))) (wVar 3))) (wImm (wVar 7))))))
theorem b_together_with {P : Program} {w : World} {K : PySem.W.Frag} {mg : Str → Option Value} {base : Heap} {h : Hd} {f : Addr} (Fa : Facts mg) (cdv : Value) (A : Around) (outer : List Env) (s : Shared) (H : Hp) (E : XK) (hr : Room 0 (A.deeper (envOfC "together_with" (defScope s_together_with) s.heap.objs.size f cdv))) :
    PSs (cxOf CX0 P w K mg base ["words", "letters", "letter", "known", "is_going", "word", "more", "at"] "together_with" (defScope s_together_with) f cdv A outer s H E).nox (defBody s_together_with) (tS h w_together_with) :=
    (qcons (qunp2 (i := 3) (j := 4) rfl sc_together_with.nd rfl rfl (by first | exact .inl rfl | exact .inr rfl) (by first | exact .inl rfl | exact .inr rfl) (ptup (pa_cons_f (pdc rfl sc_together_with.nd (it_seq (ph_v (i := 1) (pv 1))) (blkOk_by (own := [("letter", 2)]) (by show blkC ["words", "letters", "letter", "known", "is_going", "word", "more", "at"] (defScope s_together_with) _ _ = true; decide +kernel)) (fun _ _ _ _ _ => (tg_name (i := 2) sc_together_with.nd rfl (by first | exact .inl rfl | exact .inr rfl))) (fun _ _ _ _ _ => ptsnil) (fun _ _ _ _ _ => (pvar (pv 2))) (fun _ _ _ _ _ => (pconst pe_bl))) (pa_cons_f (pconst pe_bl) panil))))
    (qcons (qwhile PassesOwn.never (ptb (pvar (pv 4))) (qcons (qsetLc (i := 6) rfl sc_together_with.nd rfl rfl rfl (by decide) (by decide +kernel) (it_seq (ph_v (i := 0) (pv 0))) (blkOk_by (own := [("word", 5)]) (by show blkC ["words", "letters", "letter", "known", "is_going", "word", "more", "at"] (defScope s_together_with) _ _ = true; decide +kernel)) (fun _ _ _ _ _ => (tg_name (i := 5) sc_together_with.nd rfl (by first | exact .inl rfl | exact .inr rfl))) (fun _ _ _ _ _ => (ptsone (ptc (op_neD hr.units) s_ne (pf_p (pc (o_in (hu_of hr)) s_in (pix (o_ix (hu_of hr)) s_ix (pvar (pv 5)) (pf_p (pconst pe_int)) (fun _ _ => rfl)) (pvar (pv 3)) rfl)) (pf_p (pc (o_in (hu_of hr)) s_in (pix (o_ix (hu_of hr)) s_ix (pvar (pv 5)) (pf_p (pu un_neg s_neg (pf_p (pconst pe_int)))) (fun _ _ => rfl)) (pvar (pv 3)) rfl)) (nomark _)))) (fun _ _ _ _ _ => (pp_f (pvar (pv 5)))))
    (qcons (qset (i := 4) sc_together_with.nd rfl (by first | exact .inl rfl | exact .inr rfl) (pc o_gt s_gt (pf_p (pxb x_len (by rfl) Fa.m_len bt_len (pa_cons_p (pvar (pv 6)) (paf_p panil)))) (pf_p (pconst pe_int)) (nomark _)))
    (qone (qlock 6 (qfor PassesOwn.never rfl (it_seq (ph_v (i := 6) (pv 6))) (tg_name (i := 5) sc_together_with.nd rfl (by first | exact .inl rfl | exact .inr rfl)) (qone (qasgM (ptup (pa_cons_f (pconst pe_bl) (pa_cons_f (pconst pe_bl) panil))) (tm_tup2 rfl (tms_cons (tm_sub (i := 3) (hu_of hr) (pv 3) (pix (o_ix (hu_of hr)) s_ix (pvar (pv 5)) (pf_p (pconst pe_int)) (fun _ _ => rfl))) (tms_cons (tm_sub (i := 3) (hu_of hr) (pv 3) (pix (o_ix (hu_of hr)) s_ix (pvar (pv 5)) (pf_p (pu un_neg s_neg (pf_p (pconst pe_int)))) (fun _ _ => rfl))) tms_nil)))))))))))
    (qone (qret (plc rfl sc_together_with.nd (it_enum (by rfl) Fa.m_enumerate (ph_v (i := 0) (pv 0))) (blkOk_by (own := [("at", 7), ("word", 5)]) (by show blkC ["words", "letters", "letter", "known", "is_going", "word", "more", "at"] (defScope s_together_with) _ _ = true; decide +kernel)) (fun _ _ _ _ _ => (tg_tup rfl (tgs_cons (tg_name (i := 7) sc_together_with.nd rfl (by first | exact .inl rfl | exact .inr rfl)) (tgs_cons (tg_name (i := 5) sc_together_with.nd rfl (by first | exact .inl rfl | exact .inr rfl)) tgs_nil)))) (fun _ _ _ _ _ => (ptsone (ptc (o_in (hu_of hr)) s_in (pix (o_ix (hu_of hr)) s_ix (pvar (pv 5)) (pf_p (pconst pe_int)) (fun _ _ => rfl)) (pvar (pv 3)) rfl))) (fun _ _ _ _ _ => (pp_f (pvar (pv 7)))))))))
theorem c_together_with {P : Program} {w : World} {K : PySem.W.Frag} {mg : Str → Option Value} {base : Heap} {f : Addr} {fd : FuncData} (F : Fun K "together_with" "together_with" s_together_with f fd) (m : mg "together_with" = some (.ref f)) (Fa : Facts mg) (len : ∀ ds R, g_together_with ds R → ds.length = 2) (law : ∀ ds R, g_together_with ds R → w_together_with { nx := fun _ => R (.v .non), rt := R } (startR ["words", "letters", "letter", "known", "is_going", "word", "more", "at"] ds)) : Cal P w K mg base 1 "together_with" ["words", "letters"] g_together_with :=
  ⟨f, fd, m, F.kp, F.binds fun _ _ _ _ _ _ us hl => match us, hl with | [_, _], _ => rfl, fun h => def_ok F sc_together_with len (fun cdv A outer s H E hr => b_together_with Fa cdv A outer s H E hr) law⟩
/-! ### are_even_enough -/
abbrev s_are_even_enough : Stmt := topS 20
theorem sc_are_even_enough : FnScope ["words", "surplus"] ["words"] (defScope s_are_even_enough) := ⟨rfl, rfl, rfl, by decide +kernel, rfl, by decide +kernel, by decide +kernel⟩
def w_are_even_enough : WS :=
    (wSeqS (wSet 1 (wL g_surplus_of (wCons (wVar 0) wNil)))
    (wRet (wOrV (wB kEq (wL kLen (wCons (wVar 1) wNil)) (wC (.int 0))) (wB kEq (wU kSortV (wVar 1)) (wLst (wCons (wU kNeg (wC (.int 1))) (wCons (wC (.int 1)) wNil)))))))
theorem b_are_even_enough {P : Program} {w : World} {K : PySem.W.Frag} {mg : Str → Option Value} {base : Heap} {h : Hd} {f : Addr} (Fa : Facts mg) (C_surplus_of : Cal P w K mg base 1 "surplus_of" ["words"] g_surplus_of) (cdv : Value) (A : Around) (outer : List Env) (s : Shared) (H : Hp) (E : XK) (hr : Room 1 (A.deeper (envOfC "are_even_enough" (defScope s_are_even_enough) s.heap.objs.size f cdv))) :
    PSs (cxOf CX0 P w K mg base ["words", "surplus"] "are_even_enough" (defScope s_are_even_enough) f cdv A outer s H E).nox (defBody s_are_even_enough) (tS h w_are_even_enough) :=
    (qcons (qset (i := 1) sc_are_even_enough.nd rfl (by first | exact .inl rfl | exact .inr rfl) (pcall C_surplus_of (hr.mono (by decide)) (by rfl) (pa_cons_p (pvar (pv 0)) (paf_p panil))))
    (qone (qret (por (pf_p (pc (op_eqD hr.units) s_eq (pf_p (pxb x_len (by rfl) Fa.m_len bt_len (pa_cons_p (pvar (pv 1)) (paf_p panil)))) (pf_p (pconst pe_int)) (nomark _))) (pone (pc (op_eqD hr.units) s_eq (pf_p (psortV rfl hr.units (by rfl) Fa.m_sorted bt_sorted (pvar (pv 1)))) (pf_p (plst (pa_cons_f (pu un_neg s_neg (pf_p (pconst pe_int))) (pa_cons_f (pconst pe_int) panil)))) (nomark _)))))))
theorem c_are_even_enough {P : Program} {w : World} {K : PySem.W.Frag} {mg : Str → Option Value} {base : Heap} {f : Addr} {fd : FuncData} (F : Fun K "are_even_enough" "are_even_enough" s_are_even_enough f fd) (m : mg "are_even_enough" = some (.ref f)) (Fa : Facts mg) (C_surplus_of : Cal P w K mg base 1 "surplus_of" ["words"] g_surplus_of) (len : ∀ ds R, g_are_even_enough ds R → ds.length = 1) (law : ∀ ds R, g_are_even_enough ds R → w_are_even_enough { nx := fun _ => R (.v .non), rt := R } (startR ["words", "surplus"] ds)) : Cal P w K mg base 2 "are_even_enough" ["words"] g_are_even_enough :=
  ⟨f, fd, m, F.kp, F.binds fun _ _ _ _ _ _ us hl => match us, hl with | [_], _ => rfl, fun h => def_ok F sc_are_even_enough len (fun cdv A outer s H E hr => b_are_even_enough Fa C_surplus_of cdv A outer s H E hr) law⟩
/-! ### can_go_on -/
abbrev s_can_go_on : Stmt := topS 21
theorem sc_can_go_on : FnScope ["words", "letter", "surplus"] ["words", "letter"] (defScope s_can_go_on) := ⟨rfl, rfl, rfl, by decide +kernel, rfl, by decide +kernel, by decide +kernel⟩
def w_can_go_on : WS :=
    (wSeqS (wIfS (wTB (wB kEq (wL kLen (wCons (wVar 0) wNil)) (wC (.int 0)))) (wRet (wC (.bl true))) wNext)
    (wSeqS (wSet 2 (wL g_surplus_of (wCons (wVar 0) wNil)))
    (wSeqS (wIfS (wAndT (wTB (wB kGt (wL kLen (wCons (wVar 2) wNil)) (wC (.int 0)))) (wOrT (wTB (wB kNe (wU kSortV (wVar 2)) (wLst (wCons (wU kNeg (wC (.int 1))) (wCons (wC (.int 1)) wNil))))) (wTB (wB kNe (wGet (wVar 2) (wVar 1) (wC (.int 0))) (wC (.int 1)))))) (wRet (wC (.bl false))) wNext)
    (wRet (wB kEq (wL kLen (wCons (wL g_together_with (wCons (wVar 0) (wCons (wVar 1) wNil))) wNil)) (wL kLen (wCons (wVar 0) wNil)))))))
theorem b_can_go_on {P : Program} {w : World} {K : PySem.W.Frag} {mg : Str → Option Value} {base : Heap} {h : Hd} {f : Addr} (Fa : Facts mg) (C_surplus_of : Cal P w K mg base 1 "surplus_of" ["words"] g_surplus_of) (C_together_with : Cal P w K mg base 1 "together_with" ["words", "letters"] g_together_with) (cdv : Value) (A : Around) (outer : List Env) (s : Shared) (H : Hp) (E : XK) (hr : Room 1 (A.deeper (envOfC "can_go_on" (defScope s_can_go_on) s.heap.objs.size f cdv))) :
    PSs (cxOf CX0 P w K mg base ["words", "letter", "surplus"] "can_go_on" (defScope s_can_go_on) f cdv A outer s H E).nox (defBody s_can_go_on) (tS h w_can_go_on) :=
    (qcons (qif (ptc (op_eqD hr.units) s_eq (pf_p (pxb x_len (by rfl) Fa.m_len bt_len (pa_cons_p (pvar (pv 0)) (paf_p panil)))) (pf_p (pconst pe_int)) (nomark _)) (qone (qret (pconst pe_bl))) qnil)
    (qcons (qset (i := 2) sc_can_go_on.nd rfl (by first | exact .inl rfl | exact .inr rfl) (pcall C_surplus_of (hr.mono (by decide)) (by rfl) (pa_cons_p (pvar (pv 0)) (paf_p panil))))
    (qcons (qif (ptand (ptc o_gt s_gt (pf_p (pxb x_len (by rfl) Fa.m_len bt_len (pa_cons_p (pvar (pv 2)) (paf_p panil)))) (pf_p (pconst pe_int)) (nomark _)) (ptand1 (ptor (ptc (op_neD hr.units) s_ne (pf_p (psortV rfl hr.units (by rfl) Fa.m_sorted bt_sorted (pvar (pv 2)))) (pf_p (plst (pa_cons_f (pu un_neg s_neg (pf_p (pconst pe_int))) (pa_cons_f (pconst pe_int) panil)))) (nomark _)) (ptor1 (ptc (op_neD hr.units) s_ne (pget (hu_of hr) (pvar (pv 2)) (pvar (pv 1)) (pf_p (pconst pe_int)) ⟨rfl, rfl, rfl, rfl⟩) (pf_p (pconst pe_int)) (nomark _)))).pt)).pt (qone (qret (pconst pe_bl))) qnil)
    (qone (qret (pc (op_eqD hr.units) s_eq (pf_p (pxb x_len (by rfl) Fa.m_len bt_len (pa_cons_p (pf_p (pcall C_together_with (hr.mono (by decide)) (by rfl) (pa_cons_p (pvar (pv 0)) (pa_cons_p (pvar (pv 1)) (paf_p panil))))) (paf_p panil)))) (pf_p (pxb x_len (by rfl) Fa.m_len bt_len (pa_cons_p (pvar (pv 0)) (paf_p panil)))) (nomark _)))))))
theorem c_can_go_on {P : Program} {w : World} {K : PySem.W.Frag} {mg : Str → Option Value} {base : Heap} {f : Addr} {fd : FuncData} (F : Fun K "can_go_on" "can_go_on" s_can_go_on f fd) (m : mg "can_go_on" = some (.ref f)) (Fa : Facts mg) (C_surplus_of : Cal P w K mg base 1 "surplus_of" ["words"] g_surplus_of) (C_together_with : Cal P w K mg base 1 "together_with" ["words", "letters"] g_together_with) (len : ∀ ds R, g_can_go_on ds R → ds.length = 2) (law : ∀ ds R, g_can_go_on ds R → w_can_go_on { nx := fun _ => R (.v .non), rt := R } (startR ["words", "letter", "surplus"] ds)) : Cal P w K mg base 2 "can_go_on" ["words", "letter"] g_can_go_on :=
  ⟨f, fd, m, F.kp, F.binds fun _ _ _ _ _ _ us hl => match us, hl with | [_, _], _ => rfl, fun h => def_ok F sc_can_go_on len (fun cdv A outer s H E hr => b_can_go_on Fa C_surplus_of C_together_with cdv A outer s H E hr) law⟩
/-! ### chain -/
abbrev s_chain : Stmt := topS 22
theorem sc_chain : FnScope ["book", "left", "found", "letter", "some", "at", "other", "rest"] ["book"] (defScope s_chain) := ⟨rfl, rfl, rfl, by decide +kernel, rfl, by decide +kernel, by decide +kernel⟩
def w_chain : WS :=
    (wSeqS (wDrop (wL g_check_book (wCons (wVar 0) wNil)))
    (wSeqS (wPar3 1 2 3 (wCons (wLRg1 (wL kLen (wCons (wVar 0) wNil))) (wCons (wTup wNil) (wCons (wC .non) wNil))))
    (wSeqS (wWhile (wTB (wB kGt (wL kLen (wCons (wVar 1) wNil)) (wC (.int 0)))) (wSeqS (wSet 4 (wLst wNil))
    (wSeqS (wLock 1 (wFor (wSeq (wHv 1)) (wN 5) (wSeqS (wSet 7 (wLc [6] (wSeq (wHv 1)) (wN 6) (wTB (wB kNe (wVar 6) (wVar 5))) (wImm (wB kIx (wVar 0) (wVar 6)))))
    (wIfS (wAndT (wTB (wB kIn (wVar 3) (wTup (wCons (wC .non) (wCons (wImm (wB kIx (wB kIx (wVar 0) (wVar 5)) (wC (.int 0)))) wNil))))) (wTB (wL g_can_go_on (wCons (wVar 7) (wCons (wB kIx (wB kIx (wVar 0) (wVar 5)) (wU kNeg (wC (.int 1)))) wNil))))) (wApp 4 (wImm (wVar 5))) wNext))))
    (wSeqS (wIfS (wTB (wB kEq (wL kLen (wCons (wVar 4) wNil)) (wC (.int 0)))) (wRet (wC .non)) wNext)
    (wSeqS (wPar 2 3 (wCons (wB kAdd (wVar 2) (wTup (wCons (wImm (wB kIx (wVar 4) (wC (.int 0)))) wNil))) (wCons (wImm (wB kIx (wB kIx (wVar 0) (wB kIx (wVar 4) (wC (.int 0)))) (wU kNeg (wC (.int 1))))) wNil)))
    (wRem 1 (wB kIx (wVar 4) (wC (.int 0)))))))))
    (wRetV 2))))
theorem b_chain {P : Program} {w : World} {K : PySem.W.Frag} {mg : Str → Option Value} {base : Heap} {h : Hd} {f : Addr} (Fa : Facts mg) (C_check_book : Cal P w K mg base 4 "check_book" ["thing"] g_check_book) (C_can_go_on : Cal P w K mg base 2 "can_go_on" ["words", "letter"] g_can_go_on) (cdv : Value) (A : Around) (outer : List Env) (s : Shared) (H : Hp) (E : XK) (hr : Room 4 (A.deeper (envOfC "chain" (defScope s_chain) s.heap.objs.size f cdv))) :
    PSs (cxOf CX0 P w K mg base ["book", "left", "found", "letter", "some", "at", "other", "rest"] "chain" (defScope s_chain) f cdv A outer s H E).nox (defBody s_chain) (tS h w_chain) :=
    (qcons (qdrop (pcall C_check_book (hr.mono (by decide)) (by rfl) (pa_cons_p (pvar (pv 0)) (paf_p panil))))
    (qcons (qpar3 (i := 1) (j := 2) (l := 3) rfl sc_chain.nd rfl rfl rfl (by decide) (by decide) (by decide) rfl rfl rfl (pa_cons_f (plrg1 rfl (by rfl) Fa.m_list (by rfl) Fa.m_range (pf_p (pxb x_len (by rfl) Fa.m_len bt_len (pa_cons_p (pvar (pv 0)) (paf_p panil))))) (pa_cons_f (ptup panil) (pa_cons_f (pconst pe_non) panil))) rfl)
    (qcons (qwhile PassesOwn.never (ptc o_gt s_gt (pf_p (pxb x_len (by rfl) Fa.m_len bt_len (pa_cons_p (pvar (pv 1)) (paf_p panil)))) (pf_p (pconst pe_int)) (nomark _)) (qcons (qset (i := 4) sc_chain.nd rfl (by first | exact .inl rfl | exact .inr rfl) (plst panil))
    (qcons (qlock 1 (qfor PassesOwn.never rfl (it_seq (ph_v (i := 1) (pv 1))) (tg_name (i := 5) sc_chain.nd rfl (by first | exact .inl rfl | exact .inr rfl)) (qcons (qsetLc (i := 7) rfl sc_chain.nd rfl rfl rfl (by decide) (by decide +kernel) (it_seq (ph_v (i := 1) (pv 1))) (blkOk_by (own := [("other", 6)]) (by show blkC ["book", "left", "found", "letter", "some", "at", "other", "rest"] (defScope s_chain) _ _ = true; decide +kernel)) (fun _ _ _ _ _ => (tg_name (i := 6) sc_chain.nd rfl (by first | exact .inl rfl | exact .inr rfl))) (fun _ _ _ _ _ => (ptsone (ptc (op_neD hr.units) s_ne (pvar (pv 6)) (pvar (pv 5)) (nomark _)))) (fun _ _ _ _ _ => (pp_f (pix (o_ix (hu_of hr)) s_ix (pvar (pv 0)) (pvar (pv 6)) (fun _ _ => rfl)))))
    (qone (qif (ptand (ptc (o_in (hu_of hr)) s_in (pvar (pv 3)) (pf_p (ptup (pa_cons_f (pconst pe_non) (pa_cons_f (pp_f (pix (o_ix (hu_of hr)) s_ix (pix (o_ix (hu_of hr)) s_ix (pvar (pv 0)) (pvar (pv 5)) (fun _ _ => rfl)) (pf_p (pconst pe_int)) (fun _ _ => rfl))) panil)))) rfl) (ptand1 (ptb (pf_p (pcall C_can_go_on (hr.mono (by decide)) (by rfl) (pa_cons_p (pvar (pv 7)) (pa_cons_p (pix (o_ix (hu_of hr)) s_ix (pix (o_ix (hu_of hr)) s_ix (pvar (pv 0)) (pvar (pv 5)) (fun _ _ => rfl)) (pf_p (pu un_neg s_neg (pf_p (pconst pe_int)))) (fun _ _ => rfl)) (paf_p panil)))))))).pt (qone (qappend (i := 4) (pv 4) (pp_f (pvar (pv 5))))) qnil)))))
    (qcons (qif (ptc (op_eqD hr.units) s_eq (pf_p (pxb x_len (by rfl) Fa.m_len bt_len (pa_cons_p (pvar (pv 4)) (paf_p panil)))) (pf_p (pconst pe_int)) (nomark _)) (qone (qret (pconst pe_non))) qnil)
    (qcons (qpar (i := 2) (j := 3) rfl sc_chain.nd rfl rfl (by decide) rfl rfl (pa_cons_f (pb o_add s_add (pvar (pv 2)) (pf_p (ptup (pa_cons_f (pp_f (pix (o_ix (hu_of hr)) s_ix (pvar (pv 4)) (pf_p (pconst pe_int)) (fun _ _ => rfl))) panil)))) (pa_cons_f (pp_f (pix (o_ix (hu_of hr)) s_ix (pix (o_ix (hu_of hr)) s_ix (pvar (pv 0)) (pix (o_ix (hu_of hr)) s_ix (pvar (pv 4)) (pf_p (pconst pe_int)) (fun _ _ => rfl)) (fun _ _ => rfl)) (pf_p (pu un_neg s_neg (pf_p (pconst pe_int)))) (fun _ _ => rfl))) panil)) rfl)
    (qone (qremove (i := 1) rfl (pv 1) (pix (o_ix (hu_of hr)) s_ix (pvar (pv 4)) (pf_p (pconst pe_int)) (fun _ _ => rfl)))))))))
    (qone (qretv (i := 2) (pv 2))))))
theorem c_chain {P : Program} {w : World} {K : PySem.W.Frag} {mg : Str → Option Value} {base : Heap} {f : Addr} {fd : FuncData} (F : Fun K "chain" "chain" s_chain f fd) (m : mg "chain" = some (.ref f)) (Fa : Facts mg) (C_check_book : Cal P w K mg base 4 "check_book" ["thing"] g_check_book) (C_can_go_on : Cal P w K mg base 2 "can_go_on" ["words", "letter"] g_can_go_on) (len : ∀ ds R, g_chain ds R → ds.length = 1) (law : ∀ ds R, g_chain ds R → w_chain { nx := fun _ => R (.v .non), rt := R } (startR ["book", "left", "found", "letter", "some", "at", "other", "rest"] ds)) : Cal P w K mg base 5 "chain" ["book"] g_chain :=
  ⟨f, fd, m, F.kp, F.binds fun _ _ _ _ _ _ us hl => match us, hl with | [_], _ => rfl, fun h => def_ok F sc_chain len (fun cdv A outer s H E hr => b_chain Fa C_check_book C_can_go_on cdv A outer s H E hr) law⟩
/-! ### bar -/
abbrev s_bar : Stmt := topS 23
theorem sc_bar : FnScope ["book", "letter", "some"] ["book"] (defScope s_bar) := ⟨rfl, rfl, rfl, by decide +kernel, rfl, by decide +kernel, by decide +kernel⟩
def w_bar : WS :=
    (wSeqS (wDrop (wL g_check_book (wCons (wVar 0) wNil)))
    (wSeqS (wIfS (wTB (wB kEq (wL kLen (wCons (wVar 0) wNil)) (wC (.int 0)))) (wRet (wC .non)) wNext)
    (wSeqS (wIfS (wNotT (wTB (wL g_are_even_enough (wCons (wVar 0) wNil)))) (wRet (wTup (wCons (wC (.str "letters")) (wCons (wM "str" kJoin (wC (.str "")) (wCons (wLc [1] (wSeq (wC (.str "abcdefghijklmnopqrstuvwxyz"))) (wN 1) (wTB (wB kIn (wVar 1) (wL g_surplus_of (wCons (wVar 0) wNil)))) (wImm (wVar 1))) wNil)) wNil)))) wNext)
    (wSeqS (wSet 2 (wL g_together_with (wCons (wVar 0) (wCons (wB kIx (wB kIx (wVar 0) (wC (.int 0))) (wC (.int 0))) wNil))))
    (wRet (wIf (wTB (wB kEq (wL kLen (wCons (wVar 2) wNil)) (wL kLen (wCons (wVar 0) wNil)))) (wC .non) (wTup (wCons (wC (.str "apart")) (wCons (wL kTuple (wCons (wVar 2) wNil)) wNil)))))))))
theorem b_bar {P : Program} {w : World} {K : PySem.W.Frag} {mg : Str → Option Value} {base : Heap} {h : Hd} {f : Addr} (Fa : Facts mg) (C_check_book : Cal P w K mg base 4 "check_book" ["thing"] g_check_book) (C_are_even_enough : Cal P w K mg base 2 "are_even_enough" ["words"] g_are_even_enough) (C_surplus_of : Cal P w K mg base 1 "surplus_of" ["words"] g_surplus_of) (C_together_with : Cal P w K mg base 1 "together_with" ["words", "letters"] g_together_with) (cdv : Value) (A : Around) (outer : List Env) (s : Shared) (H : Hp) (E : XK) (hr : Room 4 (A.deeper (envOfC "bar" (defScope s_bar) s.heap.objs.size f cdv))) :
    PSs (cxOf CX0 P w K mg base ["book", "letter", "some"] "bar" (defScope s_bar) f cdv A outer s H E).nox (defBody s_bar) (tS h w_bar) :=
    (qcons (qdrop (pcall C_check_book (hr.mono (by decide)) (by rfl) (pa_cons_p (pvar (pv 0)) (paf_p panil))))
    (qcons (qif (ptc (op_eqD hr.units) s_eq (pf_p (pxb x_len (by rfl) Fa.m_len bt_len (pa_cons_p (pvar (pv 0)) (paf_p panil)))) (pf_p (pconst pe_int)) (nomark _)) (qone (qret (pconst pe_non))) qnil)
    (qcons (qif (ptnot (ptb (pf_p (pcall C_are_even_enough (hr.mono (by decide)) (by rfl) (pa_cons_p (pvar (pv 0)) (paf_p panil)))))) (qone (qret (ptup (pa_cons_f (pconst pe_str) (pa_cons_f (pm PySem.F.plainAttrs_str PySem.F.slot_str_join PySem.F.type_str_join mt_join s_join (pf_p (pconst pe_str)) (pa_cons_p (pf_p (plc rfl sc_bar.nd (it_seq (ph_f (pglob (by rfl) Fa.LETTERS))) (blkOk_by (own := [("letter", 1)]) (by show blkC ["book", "letter", "some"] (defScope s_bar) _ _ = true; decide +kernel)) (fun _ _ _ _ _ => (tg_name (i := 1) sc_bar.nd rfl (by first | exact .inl rfl | exact .inr rfl))) (fun _ _ _ _ _ => (ptsone (ptc (o_in (hu_of hr)) s_in (pvar (pv 1)) (pf_p (pcall C_surplus_of (hr.mono (by decide)) (by rfl) (pa_cons_p (pvar (pv 0)) (paf_p panil)))) rfl))) (fun _ _ _ _ _ => (pp_f (pvar (pv 1)))))) (paf_p panil))) panil))))) qnil)
    (qcons (qset (i := 2) sc_bar.nd rfl (by first | exact .inl rfl | exact .inr rfl) (pcall C_together_with (hr.mono (by decide)) (by rfl) (pa_cons_p (pvar (pv 0)) (pa_cons_p (pix (o_ix (hu_of hr)) s_ix (pix (o_ix (hu_of hr)) s_ix (pvar (pv 0)) (pf_p (pconst pe_int)) (fun _ _ => rfl)) (pf_p (pconst pe_int)) (fun _ _ => rfl)) (paf_p panil)))))
    (qone (qret (pif (ptc (op_eqD hr.units) s_eq (pf_p (pxb x_len (by rfl) Fa.m_len bt_len (pa_cons_p (pvar (pv 2)) (paf_p panil)))) (pf_p (pxb x_len (by rfl) Fa.m_len bt_len (pa_cons_p (pvar (pv 0)) (paf_p panil)))) (nomark _)) (pconst pe_non) (ptup (pa_cons_f (pconst pe_str) (pa_cons_f (pct call_tuple_of s_tuple (by rfl) Fa.m_tuple bt_tuple (pa_cons_p (pvar (pv 2)) (paf_p panil))) panil))))))))))
theorem c_bar {P : Program} {w : World} {K : PySem.W.Frag} {mg : Str → Option Value} {base : Heap} {f : Addr} {fd : FuncData} (F : Fun K "bar" "bar" s_bar f fd) (m : mg "bar" = some (.ref f)) (Fa : Facts mg) (C_check_book : Cal P w K mg base 4 "check_book" ["thing"] g_check_book) (C_are_even_enough : Cal P w K mg base 2 "are_even_enough" ["words"] g_are_even_enough) (C_surplus_of : Cal P w K mg base 1 "surplus_of" ["words"] g_surplus_of) (C_together_with : Cal P w K mg base 1 "together_with" ["words", "letters"] g_together_with) (len : ∀ ds R, g_bar ds R → ds.length = 1) (law : ∀ ds R, g_bar ds R → w_bar { nx := fun _ => R (.v .non), rt := R } (startR ["book", "letter", "some"] ds)) : Cal P w K mg base 5 "bar" ["book"] g_bar :=
  ⟨f, fd, m, F.kp, F.binds fun _ _ _ _ _ _ us hl => match us, hl with | [_], _ => rfl, fun h => def_ok F sc_bar len (fun cdv A outer s H E hr => b_bar Fa C_check_book C_are_even_enough C_surplus_of C_together_with cdv A outer s H E hr) law⟩
/-! ### _law_any -/
abbrev s__law_any : Stmt := topS 27
theorem sc__law_any : FnScope ["hand", "some"] ["hand", "some"] (defScope s__law_any) := ⟨rfl, rfl, rfl, by decide +kernel, rfl, by decide +kernel, by decide +kernel⟩
def w__law_any : WS :=
    (wRet (wImm (wB kIx (wVar 1) (wL g__law_draw (wCons (wVar 0) (wCons (wL kLen (wCons (wVar 1) wNil)) wNil))))))
theorem b__law_any {P : Program} {w : World} {K : PySem.W.Frag} {mg : Str → Option Value} {base : Heap} {h : Hd} {f : Addr} (Fa : Facts mg) (C__law_draw : Cal P w K mg base 1 "_law_draw" ["hand", "many"] g__law_draw) (cdv : Value) (A : Around) (outer : List Env) (s : Shared) (H : Hp) (E : XK) (hr : Room 1 (A.deeper (envOfC "_law_any" (defScope s__law_any) s.heap.objs.size f cdv))) :
    PSs (cxOf CX0 P w K mg base ["hand", "some"] "_law_any" (defScope s__law_any) f cdv A outer s H E).nox (defBody s__law_any) (tS h w__law_any) :=
    (qone (qret (pp_f (pix (o_ix (hu_of hr)) s_ix (pvar (pv 1)) (pf_p (pcall C__law_draw (hr.mono (by decide)) (by rfl) (pa_cons_p (pvar (pv 0)) (pa_cons_p (pf_p (pxb x_len (by rfl) Fa.m_len bt_len (pa_cons_p (pvar (pv 1)) (paf_p panil)))) (paf_p panil))))) (fun _ _ => rfl)))))
theorem c__law_any {P : Program} {w : World} {K : PySem.W.Frag} {mg : Str → Option Value} {base : Heap} {f : Addr} {fd : FuncData} (F : Fun K "_law_any" "_law_any" s__law_any f fd) (m : mg "_law_any" = some (.ref f)) (Fa : Facts mg) (C__law_draw : Cal P w K mg base 1 "_law_draw" ["hand", "many"] g__law_draw) (len : ∀ ds R, g__law_any ds R → ds.length = 2) (law : ∀ ds R, g__law_any ds R → w__law_any { nx := fun _ => R (.v .non), rt := R } (startR ["hand", "some"] ds)) : Cal P w K mg base 2 "_law_any" ["hand", "some"] g__law_any :=
  ⟨f, fd, m, F.kp, F.binds fun _ _ _ _ _ _ us hl => match us, hl with | [_, _], _ => rfl, fun h => def_ok F sc__law_any len (fun cdv A outer s H E hr => b__law_any Fa C__law_draw cdv A outer s H E hr) law⟩
/-! ### _law_mixed -/
abbrev s__law_mixed : Stmt := topS 28
theorem sc__law_mixed : FnScope ["hand", "some", "left", "found"] ["hand", "some"] (defScope s__law_mixed) := ⟨rfl, rfl, rfl, by decide +kernel, rfl, by decide +kernel, by decide +kernel⟩
def w__law_mixed : WS :=
    (wSeqS (wPar 2 3 (wCons (wL kList (wCons (wVar 1) wNil)) (wCons (wLst wNil) wNil)))
    (wSeqS (wWhile (wTB (wB kGt (wL kLen (wCons (wVar 2) wNil)) (wC (.int 0)))) (wAppPop 3 2 (wL g__law_draw (wCons (wVar 0) (wCons (wL kLen (wCons (wVar 2) wNil)) wNil)))))
    (wRetV 3)))
theorem b__law_mixed {P : Program} {w : World} {K : PySem.W.Frag} {mg : Str → Option Value} {base : Heap} {h : Hd} {f : Addr} (Fa : Facts mg) (C__law_draw : Cal P w K mg base 1 "_law_draw" ["hand", "many"] g__law_draw) (cdv : Value) (A : Around) (outer : List Env) (s : Shared) (H : Hp) (E : XK) (hr : Room 1 (A.deeper (envOfC "_law_mixed" (defScope s__law_mixed) s.heap.objs.size f cdv))) :
    PSs (cxOf CX0 P w K mg base ["hand", "some", "left", "found"] "_law_mixed" (defScope s__law_mixed) f cdv A outer s H E).nox (defBody s__law_mixed) (tS h w__law_mixed) :=
    (qcons (qpar (i := 2) (j := 3) rfl sc__law_mixed.nd rfl rfl (by decide) rfl rfl (pa_cons_f (pxt (x_list rfl) (by rfl) Fa.m_list bt_list (pa_cons_p (pvar (pv 1)) (paf_p panil))) (pa_cons_f (plst panil) panil)) rfl)
    (qcons (qwhile PassesOwn.never (ptc o_gt s_gt (pf_p (pxb x_len (by rfl) Fa.m_len bt_len (pa_cons_p (pvar (pv 2)) (paf_p panil)))) (pf_p (pconst pe_int)) (nomark _)) (qone (qapppop (i := 3) (j := 2) (pv 3) (pv 2) (pf_p (pcall C__law_draw (hr.mono (by decide)) (by rfl) (pa_cons_p (pvar (pv 0)) (pa_cons_p (pf_p (pxb x_len (by rfl) Fa.m_len bt_len (pa_cons_p (pvar (pv 2)) (paf_p panil)))) (paf_p panil))))))))
    (qone (qretv (i := 3) (pv 3)))))
theorem c__law_mixed {P : Program} {w : World} {K : PySem.W.Frag} {mg : Str → Option Value} {base : Heap} {f : Addr} {fd : FuncData} (F : Fun K "_law_mixed" "_law_mixed" s__law_mixed f fd) (m : mg "_law_mixed" = some (.ref f)) (Fa : Facts mg) (C__law_draw : Cal P w K mg base 1 "_law_draw" ["hand", "many"] g__law_draw) (len : ∀ ds R, g__law_mixed ds R → ds.length = 2) (law : ∀ ds R, g__law_mixed ds R → w__law_mixed { nx := fun _ => R (.v .non), rt := R } (startR ["hand", "some", "left", "found"] ds)) : Cal P w K mg base 2 "_law_mixed" ["hand", "some"] g__law_mixed :=
  ⟨f, fd, m, F.kp, F.binds fun _ _ _ _ _ _ us hl => match us, hl with | [_, _], _ => rfl, fun h => def_ok F sc__law_mixed len (fun cdv A outer s H E hr => b__law_mixed Fa C__law_draw cdv A outer s H E hr) law⟩
/-! ### _law_letters -/
abbrev s__law_letters : Stmt := topS 29
theorem sc__law_letters : FnScope ["hand", "many"] ["hand", "many"] (defScope s__law_letters) := ⟨rfl, rfl, rfl, by decide +kernel, rfl, by decide +kernel, by decide +kernel⟩
def w__law_letters : WS :=
    (wRet (wM "str" kJoin (wC (.str "")) (wCons (wL kSorted (wCons (wSl (wL g__law_mixed (wCons (wVar 0) (wCons (wL kList (wCons (wC (.str "abcdefghijklmnopqrstuvwxyz")) wNil)) wNil))) wNoPart (wPart (wVar 1))) wNil)) wNil)))
theorem b__law_letters {P : Program} {w : World} {K : PySem.W.Frag} {mg : Str → Option Value} {base : Heap} {h : Hd} {f : Addr} (Fa : Facts mg) (C__law_mixed : Cal P w K mg base 2 "_law_mixed" ["hand", "some"] g__law_mixed) (cdv : Value) (A : Around) (outer : List Env) (s : Shared) (H : Hp) (E : XK) (hr : Room 2 (A.deeper (envOfC "_law_letters" (defScope s__law_letters) s.heap.objs.size f cdv))) :
    PSs (cxOf CX0 P w K mg base ["hand", "many"] "_law_letters" (defScope s__law_letters) f cdv A outer s H E).nox (defBody s__law_letters) (tS h w__law_letters) :=
    (qone (qret (pm PySem.F.plainAttrs_str PySem.F.slot_str_join PySem.F.type_str_join mt_join s_join (pf_p (pconst pe_str)) (pa_cons_p (pf_p (pxb (x_sorted rfl hr.units) (by rfl) Fa.m_sorted bt_sorted (pa_cons_p (pf_p (psl (pf_p (pcall C__law_mixed (hr.mono (by decide)) (by rfl) (pa_cons_p (pvar (pv 0)) (pa_cons_p (pf_p (pxt (x_list rfl) (by rfl) Fa.m_list bt_list (pa_cons_p (pf_p (pconst pe_str)) (paf_p panil)))) (paf_p panil))))) po0 (po1 (pvar (pv 1))))) (paf_p panil)))) (paf_p panil)))))
theorem c__law_letters {P : Program} {w : World} {K : PySem.W.Frag} {mg : Str → Option Value} {base : Heap} {f : Addr} {fd : FuncData} (F : Fun K "_law_letters" "_law_letters" s__law_letters f fd) (m : mg "_law_letters" = some (.ref f)) (Fa : Facts mg) (C__law_mixed : Cal P w K mg base 2 "_law_mixed" ["hand", "some"] g__law_mixed) (len : ∀ ds R, g__law_letters ds R → ds.length = 2) (law : ∀ ds R, g__law_letters ds R → w__law_letters { nx := fun _ => R (.v .non), rt := R } (startR ["hand", "many"] ds)) : Cal P w K mg base 3 "_law_letters" ["hand", "many"] g__law_letters :=
  ⟨f, fd, m, F.kp, F.binds fun _ _ _ _ _ _ us hl => match us, hl with | [_, _], _ => rfl, fun h => def_ok F sc__law_letters len (fun cdv A outer s H E hr => b__law_letters Fa C__law_mixed cdv A outer s H E hr) law⟩
/-! ### _law_walk -/
abbrev s__law_walk : Stmt := topS 30
theorem sc__law_walk : FnScope ["hand", "letters", "size", "some", "here", "turn", "word", "place"] ["hand", "letters", "size"] (defScope s__law_walk) := ⟨rfl, rfl, rfl, by decide +kernel, rfl, by decide +kernel, by decide +kernel⟩
def w__law_walk : WS :=
    (wSeqS (wPar 3 4 (wCons wDic0 (wCons (wL g__law_any (wCons (wVar 0) (wCons (wVar 1) wNil))) wNil)))
    (wSeqS (wFor (wRng1 (wCons (wVar 2) wNil)) (wN 5) (wSeqS (wSet 6 (wImm (wVar 4)))
    (wSeqS (wFor (wRng1 (wCons (wB kAdd (wC (.int 1)) (wL g__law_draw (wCons (wVar 0) (wCons (wC (.int 5)) wNil)))) wNil)) (wN 7) (wSet 6 (wB kAdd (wVar 6) (wL g__law_any (wCons (wVar 0) (wCons (wVar 1) wNil))))))
    (wIfS (wTB (wB kNotIn (wVar 6) (wVar 3))) (wSeqS (wStore 3 (wVar 6) (wC (.bl true)))
    (wSet 4 (wImm (wB kIx (wVar 6) (wU kNeg (wC (.int 1))))))) wNext))))
    (wRet (wL kList (wCons (wVar 3) wNil)))))
theorem b__law_walk {P : Program} {w : World} {K : PySem.W.Frag} {mg : Str → Option Value} {base : Heap} {h : Hd} {f : Addr} (Fa : Facts mg) (C__law_any : Cal P w K mg base 2 "_law_any" ["hand", "some"] g__law_any) (C__law_draw : Cal P w K mg base 1 "_law_draw" ["hand", "many"] g__law_draw) (cdv : Value) (A : Around) (outer : List Env) (s : Shared) (H : Hp) (E : XK) (hr : Room 2 (A.deeper (envOfC "_law_walk" (defScope s__law_walk) s.heap.objs.size f cdv))) :
    PSs (cxOf CX0 P w K mg base ["hand", "letters", "size", "some", "here", "turn", "word", "place"] "_law_walk" (defScope s__law_walk) f cdv A outer s H E).nox (defBody s__law_walk) (tS h w__law_walk) :=
    (qcons (qpar (i := 3) (j := 4) rfl sc__law_walk.nd rfl rfl (by decide) rfl rfl (pa_cons_f pdic0 (pa_cons_f (pcall C__law_any (hr.mono (by decide)) (by rfl) (pa_cons_p (pvar (pv 0)) (pa_cons_p (pvar (pv 1)) (paf_p panil)))) panil)) rfl)
    (qcons (qfor PassesOwn.never rfl (it_rng1 (by rfl) Fa.m_range (pa_cons_p (pvar (pv 2)) (paf_p panil))) (tg_name (i := 5) sc__law_walk.nd rfl (by first | exact .inl rfl | exact .inr rfl)) (qcons (qset (i := 6) sc__law_walk.nd rfl (by first | exact .inl rfl | exact .inr rfl) (pp_f (pvar (pv 4))))
    (qcons (qfor PassesOwn.never rfl (it_rng1 (by rfl) Fa.m_range (pa_cons_p (pf_p (pb o_add s_add (pf_p (pconst pe_int)) (pf_p (pcall C__law_draw (hr.mono (by decide)) (by rfl) (pa_cons_p (pvar (pv 0)) (pa_cons_p (pf_p (pconst pe_int)) (paf_p panil))))))) (paf_p panil))) (tg_name (i := 7) sc__law_walk.nd rfl (by first | exact .inl rfl | exact .inr rfl)) (qone (qset (i := 6) sc__law_walk.nd rfl (by first | exact .inl rfl | exact .inr rfl) (pb o_add s_add (pvar (pv 6)) (pf_p (pcall C__law_any (hr.mono (by decide)) (by rfl) (pa_cons_p (pvar (pv 0)) (pa_cons_p (pvar (pv 1)) (paf_p panil)))))))))
    (qone (qif (ptc (o_notIn (hu_of hr)) s_notIn (pvar (pv 6)) (pvar (pv 3)) rfl) (qcons (qstore (i := 3) (hu_of hr) (pv 3) (pvar (pv 6)) (pconst pe_bl))
    (qone (qset (i := 4) sc__law_walk.nd rfl (by first | exact .inl rfl | exact .inr rfl) (pp_f (pix (o_ix (hu_of hr)) s_ix (pvar (pv 6)) (pf_p (pu un_neg s_neg (pf_p (pconst pe_int)))) (fun _ _ => rfl)))))) qnil)))))
    (qone (qret (pxt (x_list rfl) (by rfl) Fa.m_list bt_list (pa_cons_p (pvar (pv 3)) (paf_p panil)))))))
theorem c__law_walk {P : Program} {w : World} {K : PySem.W.Frag} {mg : Str → Option Value} {base : Heap} {f : Addr} {fd : FuncData} (F : Fun K "_law_walk" "_law_walk" s__law_walk f fd) (m : mg "_law_walk" = some (.ref f)) (Fa : Facts mg) (C__law_any : Cal P w K mg base 2 "_law_any" ["hand", "some"] g__law_any) (C__law_draw : Cal P w K mg base 1 "_law_draw" ["hand", "many"] g__law_draw) (len : ∀ ds R, g__law_walk ds R → ds.length = 3) (law : ∀ ds R, g__law_walk ds R → w__law_walk { nx := fun _ => R (.v .non), rt := R } (startR ["hand", "letters", "size", "some", "here", "turn", "word", "place"] ds)) : Cal P w K mg base 3 "_law_walk" ["hand", "letters", "size"] g__law_walk :=
  ⟨f, fd, m, F.kp, F.binds fun _ _ _ _ _ _ us hl => match us, hl with | [_, _, _], _ => rfl, fun h => def_ok F sc__law_walk len (fun cdv A outer s H E hr => b__law_walk Fa C__law_any C__law_draw cdv A outer s H E hr) law⟩
/-! ### _law_odd -/
abbrev s__law_odd : Stmt := topS 31
theorem sc__law_odd : FnScope ["book", "gaps", "word", "sign", "odd"] ["book"] (defScope s__law_odd) := ⟨rfl, rfl, rfl, by decide +kernel, rfl, by decide +kernel, by decide +kernel⟩
def w__law_odd : WS :=
    (wSeqS (wSet 1 wDic0)
    (wSeqS (wFor (wSeq (wHv 0)) (wN 2) (wSeqS (wStore 1 (wB kIx (wVar 2) (wC (.int 0))) (wB kAdd (wGet (wVar 1) (wB kIx (wVar 2) (wC (.int 0))) (wC (.int 0))) (wC (.int 1))))
    (wStore 1 (wB kIx (wVar 2) (wU kNeg (wC (.int 1)))) (wB kSub (wGet (wVar 1) (wB kIx (wVar 2) (wU kNeg (wC (.int 1)))) (wC (.int 0))) (wC (.int 1))))))
    (wSeqS (wSet 4 (wM "str" kJoin (wC (.str "")) (wCons (wLc [3] (wSeq (wL kSorted (wCons (wVar 1) wNil))) (wN 3) (wTB (wB kNe (wB kIx (wVar 1) (wVar 3)) (wC (.int 0)))) (wImm (wVar 3))) wNil)))
    (wRet (wTup (wCons (wImm (wVar 4)) (wCons (wOrV (wB kEq (wVar 4) (wC (.str ""))) (wB kEq (wL kSorted (wCons (wLc [3] (wSeq (wHv 4)) (wN 3) wYes (wImm (wB kIx (wVar 1) (wVar 3)))) wNil)) (wLst (wCons (wU kNeg (wC (.int 1))) (wCons (wC (.int 1)) wNil))))) wNil)))))))
theorem b__law_odd {P : Program} {w : World} {K : PySem.W.Frag} {mg : Str → Option Value} {base : Heap} {h : Hd} {f : Addr} (Fa : Facts mg) (cdv : Value) (A : Around) (outer : List Env) (s : Shared) (H : Hp) (E : XK) (hr : Room 0 (A.deeper (envOfC "_law_odd" (defScope s__law_odd) s.heap.objs.size f cdv))) :
    PSs (cxOf CX0 P w K mg base ["book", "gaps", "word", "sign", "odd"] "_law_odd" (defScope s__law_odd) f cdv A outer s H E).nox (defBody s__law_odd) (tS h w__law_odd) :=
    (qcons (qset (i := 1) sc__law_odd.nd rfl (by first | exact .inl rfl | exact .inr rfl) pdic0)
    (qcons (qfor PassesOwn.never rfl (it_seq (ph_v (i := 0) (pv 0))) (tg_name (i := 2) sc__law_odd.nd rfl (by first | exact .inl rfl | exact .inr rfl)) (qcons (qstore (i := 1) (hu_of hr) (pv 1) (pix (o_ix (hu_of hr)) s_ix (pvar (pv 2)) (pf_p (pconst pe_int)) (fun _ _ => rfl)) (pb o_add s_add (pget (hu_of hr) (pvar (pv 1)) (pix (o_ix (hu_of hr)) s_ix (pvar (pv 2)) (pf_p (pconst pe_int)) (fun _ _ => rfl)) (pf_p (pconst pe_int)) ⟨rfl, rfl, rfl, rfl⟩) (pf_p (pconst pe_int))))
    (qone (qstore (i := 1) (hu_of hr) (pv 1) (pix (o_ix (hu_of hr)) s_ix (pvar (pv 2)) (pf_p (pu un_neg s_neg (pf_p (pconst pe_int)))) (fun _ _ => rfl)) (pb op_sub s_sub (pget (hu_of hr) (pvar (pv 1)) (pix (o_ix (hu_of hr)) s_ix (pvar (pv 2)) (pf_p (pu un_neg s_neg (pf_p (pconst pe_int)))) (fun _ _ => rfl)) (pf_p (pconst pe_int)) ⟨rfl, rfl, rfl, rfl⟩) (pf_p (pconst pe_int)))))))
    (qcons (qset (i := 4) sc__law_odd.nd rfl (by first | exact .inl rfl | exact .inr rfl) (pm PySem.F.plainAttrs_str PySem.F.slot_str_join PySem.F.type_str_join mt_join s_join (pf_p (pconst pe_str)) (pa_cons_p (pf_p (plc rfl sc__law_odd.nd (it_seq (ph_f (pxb (x_sorted rfl hr.units) (by rfl) Fa.m_sorted bt_sorted (pa_cons_p (pvar (pv 1)) (paf_p panil))))) (blkOk_by (own := [("sign", 3)]) (by show blkC ["book", "gaps", "word", "sign", "odd"] (defScope s__law_odd) _ _ = true; decide +kernel)) (fun _ _ _ _ _ => (tg_name (i := 3) sc__law_odd.nd rfl (by first | exact .inl rfl | exact .inr rfl))) (fun _ _ _ _ _ => (ptsone (ptc (op_neD hr.units) s_ne (pix (o_ix (hu_of hr)) s_ix (pvar (pv 1)) (pvar (pv 3)) (fun _ _ => rfl)) (pf_p (pconst pe_int)) (nomark _)))) (fun _ _ _ _ _ => (pp_f (pvar (pv 3)))))) (paf_p panil))))
    (qone (qret (ptup (pa_cons_f (pp_f (pvar (pv 4))) (pa_cons_f (por (pf_p (pc (op_eqD hr.units) s_eq (pvar (pv 4)) (pf_p (pconst pe_str)) (nomark _))) (pone (pc (op_eqD hr.units) s_eq (pf_p (pxb (x_sorted rfl hr.units) (by rfl) Fa.m_sorted bt_sorted (pa_cons_p (pf_p (plc rfl sc__law_odd.nd (it_seq (ph_v (i := 4) (pv 4))) (blkOk_by (own := [("sign", 3)]) (by show blkC ["book", "gaps", "word", "sign", "odd"] (defScope s__law_odd) _ _ = true; decide +kernel)) (fun _ _ _ _ _ => (tg_name (i := 3) sc__law_odd.nd rfl (by first | exact .inl rfl | exact .inr rfl))) (fun _ _ _ _ _ => ptsnil) (fun _ _ _ _ _ => (pp_f (pix (o_ix (hu_of hr)) s_ix (pvar (pv 1)) (pvar (pv 3)) (fun _ _ => rfl)))))) (paf_p panil)))) (pf_p (plst (pa_cons_f (pu un_neg s_neg (pf_p (pconst pe_int))) (pa_cons_f (pconst pe_int) panil)))) (nomark _)))) panil))))))))
theorem c__law_odd {P : Program} {w : World} {K : PySem.W.Frag} {mg : Str → Option Value} {base : Heap} {f : Addr} {fd : FuncData} (F : Fun K "_law_odd" "_law_odd" s__law_odd f fd) (m : mg "_law_odd" = some (.ref f)) (Fa : Facts mg) (len : ∀ ds R, g__law_odd ds R → ds.length = 1) (law : ∀ ds R, g__law_odd ds R → w__law_odd { nx := fun _ => R (.v .non), rt := R } (startR ["book", "gaps", "word", "sign", "odd"] ds)) : Cal P w K mg base 1 "_law_odd" ["book"] g__law_odd :=
  ⟨f, fd, m, F.kp, F.binds fun _ _ _ _ _ _ us hl => match us, hl with | [_], _ => rfl, fun h => def_ok F sc__law_odd len (fun cdv A outer s H E hr => b__law_odd Fa cdv A outer s H E hr) law⟩
/-! ### _law_hanging -/
abbrev s__law_hanging : Stmt := topS 32
theorem sc__law_hanging : FnScope ["book", "found", "signs", "turn", "at", "word"] ["book"] (defScope s__law_hanging) := ⟨rfl, rfl, rfl, by decide +kernel, rfl, by decide +kernel, by decide +kernel⟩
def w__law_hanging : WS :=
    (wSeqS (wPar 1 2 (wCons (wDisp [((wC (.int 0)), (wC (.bl true)))]) (wCons (wDisp [((wB kIx (wB kIx (wVar 0) (wC (.int 0))) (wC (.int 0))), (wC (.bl true))), ((wB kIx (wB kIx (wVar 0) (wC (.int 0))) (wU kNeg (wC (.int 1)))), (wC (.bl true)))]) wNil)))
    (wSeqS (wFor (wRng1 (wCons (wL kLen (wCons (wVar 0) wNil)) wNil)) (wN 3) (wFor (wEnum (wHv 0)) (wNT [4, 5]) (wIfS (wAndT (wTB (wB kNotIn (wVar 4) (wVar 1))) (wOrT (wTB (wB kIn (wB kIx (wVar 5) (wC (.int 0))) (wVar 2))) (wTB (wB kIn (wB kIx (wVar 5) (wU kNeg (wC (.int 1)))) (wVar 2))))) (wSeqS (wStore 1 (wVar 4) (wC (.bl true)))
    (wUpd 2 (wDisp [((wB kIx (wVar 5) (wC (.int 0))), (wC (.bl true))), ((wB kIx (wVar 5) (wU kNeg (wC (.int 1)))), (wC (.bl true)))]))) wNext)))
    (wRet (wL kTuple (wCons (wL kSorted (wCons (wVar 1) wNil)) wNil)))))
theorem b__law_hanging {P : Program} {w : World} {K : PySem.W.Frag} {mg : Str → Option Value} {base : Heap} {h : Hd} {f : Addr} (Fa : Facts mg) (cdv : Value) (A : Around) (outer : List Env) (s : Shared) (H : Hp) (E : XK) (hr : Room 0 (A.deeper (envOfC "_law_hanging" (defScope s__law_hanging) s.heap.objs.size f cdv))) :
    PSs (cxOf CX0 P w K mg base ["book", "found", "signs", "turn", "at", "word"] "_law_hanging" (defScope s__law_hanging) f cdv A outer s H E).nox (defBody s__law_hanging) (tS h w__law_hanging) :=
    (qcons (qpar (i := 1) (j := 2) rfl sc__law_hanging.nd rfl rfl (by decide) rfl rfl (pa_cons_f (pdisp (ppw_cons (pf_p (pconst pe_int)) (pf_p (pconst pe_bl)) ppw_nil) rfl rfl (by simp) (by decide) rfl) (pa_cons_f (pdisp (ppw_cons (pix (o_ix (hu_of hr)) s_ix (pix (o_ix (hu_of hr)) s_ix (pvar (pv 0)) (pf_p (pconst pe_int)) (fun _ _ => rfl)) (pf_p (pconst pe_int)) (fun _ _ => rfl)) (pf_p (pconst pe_bl)) (ppw_cons (pix (o_ix (hu_of hr)) s_ix (pix (o_ix (hu_of hr)) s_ix (pvar (pv 0)) (pf_p (pconst pe_int)) (fun _ _ => rfl)) (pf_p (pu un_neg s_neg (pf_p (pconst pe_int)))) (fun _ _ => rfl)) (pf_p (pconst pe_bl)) ppw_nil)) rfl rfl (by simp) (by decide) rfl) panil)) rfl)
    (qcons (qfor PassesOwn.never rfl (it_rng1 (by rfl) Fa.m_range (pa_cons_p (pf_p (pxb x_len (by rfl) Fa.m_len bt_len (pa_cons_p (pvar (pv 0)) (paf_p panil)))) (paf_p panil))) (tg_name (i := 3) sc__law_hanging.nd rfl (by first | exact .inl rfl | exact .inr rfl)) (qone (qfor PassesOwn.never rfl (it_enum (by rfl) Fa.m_enumerate (ph_v (i := 0) (pv 0))) (tg_tup rfl (tgs_cons (tg_name (i := 4) sc__law_hanging.nd rfl (by first | exact .inl rfl | exact .inr rfl)) (tgs_cons (tg_name (i := 5) sc__law_hanging.nd rfl (by first | exact .inl rfl | exact .inr rfl)) tgs_nil))) (qone (qif (ptand (ptc (o_notIn (hu_of hr)) s_notIn (pvar (pv 4)) (pvar (pv 1)) rfl) (ptand1 (ptor (ptc (o_in (hu_of hr)) s_in (pix (o_ix (hu_of hr)) s_ix (pvar (pv 5)) (pf_p (pconst pe_int)) (fun _ _ => rfl)) (pvar (pv 2)) rfl) (ptor1 (ptc (o_in (hu_of hr)) s_in (pix (o_ix (hu_of hr)) s_ix (pvar (pv 5)) (pf_p (pu un_neg s_neg (pf_p (pconst pe_int)))) (fun _ _ => rfl)) (pvar (pv 2)) rfl))).pt)).pt (qcons (qstore (i := 1) (hu_of hr) (pv 1) (pvar (pv 4)) (pconst pe_bl))
    (qone (qupdate (i := 2) (pv 2) (pdisp (ppw_cons (pix (o_ix (hu_of hr)) s_ix (pvar (pv 5)) (pf_p (pconst pe_int)) (fun _ _ => rfl)) (pf_p (pconst pe_bl)) (ppw_cons (pix (o_ix (hu_of hr)) s_ix (pvar (pv 5)) (pf_p (pu un_neg s_neg (pf_p (pconst pe_int)))) (fun _ _ => rfl)) (pf_p (pconst pe_bl)) ppw_nil)) rfl rfl (by simp) (by decide) rfl)))) qnil)))))
    (qone (qret (pct call_tuple_of s_tuple (by rfl) Fa.m_tuple bt_tuple (pa_cons_p (pf_p (pxb (x_sorted rfl hr.units) (by rfl) Fa.m_sorted bt_sorted (pa_cons_p (pvar (pv 1)) (paf_p panil)))) (paf_p panil)))))))
theorem c__law_hanging {P : Program} {w : World} {K : PySem.W.Frag} {mg : Str → Option Value} {base : Heap} {f : Addr} {fd : FuncData} (F : Fun K "_law_hanging" "_law_hanging" s__law_hanging f fd) (m : mg "_law_hanging" = some (.ref f)) (Fa : Facts mg) (len : ∀ ds R, g__law_hanging ds R → ds.length = 1) (law : ∀ ds R, g__law_hanging ds R → w__law_hanging { nx := fun _ => R (.v .non), rt := R } (startR ["book", "found", "signs", "turn", "at", "word"] ds)) : Cal P w K mg base 1 "_law_hanging" ["book"] g__law_hanging :=
  ⟨f, fd, m, F.kp, F.binds fun _ _ _ _ _ _ us hl => match us, hl with | [_], _ => rfl, fun h => def_ok F sc__law_hanging len (fun cdv A outer s H E hr => b__law_hanging Fa cdv A outer s H E hr) law⟩
/-! ### _law_is_one -/
abbrev s__law_is_one : Stmt := topS 33
theorem sc__law_is_one : FnScope ["book", "row", "a", "b"] ["book", "row"] (defScope s__law_is_one) := ⟨rfl, rfl, rfl, by decide +kernel, rfl, by decide +kernel, by decide +kernel⟩
def w__law_is_one : WS :=
    (wRet (wAndV (wB kEq (wL kSorted (wCons (wVar 1) wNil)) (wLRg1 (wL kLen (wCons (wVar 0) wNil)))) (wL kAll (wCons (wLc [2, 3] (wZip (wHv 1) (wSl (wVar 1) (wPart (wC (.int 1))) wNoPart)) (wNT [2, 3]) wYes (wB kEq (wB kIx (wB kIx (wVar 0) (wVar 2)) (wU kNeg (wC (.int 1)))) (wB kIx (wB kIx (wVar 0) (wVar 3)) (wC (.int 0))))) wNil))))
theorem b__law_is_one {P : Program} {w : World} {K : PySem.W.Frag} {mg : Str → Option Value} {base : Heap} {h : Hd} {f : Addr} (Fa : Facts mg) (cdv : Value) (A : Around) (outer : List Env) (s : Shared) (H : Hp) (E : XK) (hr : Room 0 (A.deeper (envOfC "_law_is_one" (defScope s__law_is_one) s.heap.objs.size f cdv))) :
    PSs (cxOf CX0 P w K mg base ["book", "row", "a", "b"] "_law_is_one" (defScope s__law_is_one) f cdv A outer s H E).nox (defBody s__law_is_one) (tS h w__law_is_one) :=
    (qone (qret (pand (pf_p (pc (op_eqD hr.units) s_eq (pf_p (pxb (x_sorted rfl hr.units) (by rfl) Fa.m_sorted bt_sorted (pa_cons_p (pvar (pv 1)) (paf_p panil)))) (pf_p (plrg1 rfl (by rfl) Fa.m_list (by rfl) Fa.m_range (pf_p (pxb x_len (by rfl) Fa.m_len bt_len (pa_cons_p (pvar (pv 0)) (paf_p panil)))))) (nomark _))) (pone (pcb (cr_all rfl) s_all (by rfl) Fa.m_all bt_all (pa_cons_p (pf_p (plc rfl sc__law_is_one.nd (it_zip (by rfl) Fa.m_zip (ph_v (i := 1) (pv 1)) (ph_f (psl (pvar (pv 1)) (po1 (pf_p (pconst pe_int))) po0))) (blkOk_by (own := [("a", 2), ("b", 3)]) (by show blkC ["book", "row", "a", "b"] (defScope s__law_is_one) _ _ = true; decide +kernel)) (fun _ _ _ _ _ => (tg_tup rfl (tgs_cons (tg_name (i := 2) sc__law_is_one.nd rfl (by first | exact .inl rfl | exact .inr rfl)) (tgs_cons (tg_name (i := 3) sc__law_is_one.nd rfl (by first | exact .inl rfl | exact .inr rfl)) tgs_nil)))) (fun _ _ _ _ _ => ptsnil) (fun _ _ _ _ _ => (pc (op_eqD hr.units) s_eq (pix (o_ix (hu_of hr)) s_ix (pix (o_ix (hu_of hr)) s_ix (pvar (pv 0)) (pvar (pv 2)) (fun _ _ => rfl)) (pf_p (pu un_neg s_neg (pf_p (pconst pe_int)))) (fun _ _ => rfl)) (pix (o_ix (hu_of hr)) s_ix (pix (o_ix (hu_of hr)) s_ix (pvar (pv 0)) (pvar (pv 3)) (fun _ _ => rfl)) (pf_p (pconst pe_int)) (fun _ _ => rfl)) (nomark _))))) (paf_p panil)))))))
theorem c__law_is_one {P : Program} {w : World} {K : PySem.W.Frag} {mg : Str → Option Value} {base : Heap} {f : Addr} {fd : FuncData} (F : Fun K "_law_is_one" "_law_is_one" s__law_is_one f fd) (m : mg "_law_is_one" = some (.ref f)) (Fa : Facts mg) (len : ∀ ds R, g__law_is_one ds R → ds.length = 2) (law : ∀ ds R, g__law_is_one ds R → w__law_is_one { nx := fun _ => R (.v .non), rt := R } (startR ["book", "row", "a", "b"] ds)) : Cal P w K mg base 1 "_law_is_one" ["book", "row"] g__law_is_one :=
  ⟨f, fd, m, F.kp, F.binds fun _ _ _ _ _ _ us hl => match us, hl with | [_, _], _ => rfl, fun h => def_ok F sc__law_is_one len (fun cdv A outer s H E hr => b__law_is_one Fa cdv A outer s H E hr) law⟩
/-! ### _law_is_right -/
abbrev s__law_is_right : Stmt := topS 34
theorem sc__law_is_right : FnScope ["hand", "letters", "words", "kind", "at", "word", "book", "odd", "can", "lot", "told", "paper", "own", "to", "row"] ["hand"] (defScope s__law_is_right) := ⟨rfl, rfl, rfl, by decide +kernel, rfl, by decide +kernel, by decide +kernel⟩
def w__law_is_right : WS :=
    (wSeqS (wSet 1 (wL g__law_letters (wCons (wVar 0) (wCons (wL g__law_any (wCons (wVar 0) (wCons (wLst (wCons (wC (.int 2)) (wCons (wC (.int 3)) (wCons (wC (.int 5)) (wCons (wC (.int 26)) wNil))))) wNil))) wNil))))
    (wSeqS (wSet 2 (wL g__law_walk (wCons (wVar 0) (wCons (wVar 1) (wCons (wB kAdd (wC (.int 40)) (wL g__law_draw (wCons (wVar 0) (wCons (wC (.int 21)) wNil)))) wNil)))))
    (wSeqS (wSet 3 (wL g__law_draw (wCons (wVar 0) (wCons (wC (.int 4)) wNil))))
    (wSeqS (wIfS (wTB (wB kEq (wVar 3) (wC (.int 1)))) (wSeqS (wSet 4 (wL g__law_draw (wCons (wVar 0) (wCons (wL kLen (wCons (wVar 2) wNil)) wNil))))
    (wStore 2 (wVar 4) (wU kRevS (wB kIx (wVar 2) (wVar 4))))) wNext)
    (wSeqS (wIfS (wTB (wB kEq (wVar 3) (wC (.int 2)))) (wSet 2 (wB kAdd (wSl (wVar 2) wNoPart (wPart (wC (.int 25)))) (wL g__law_walk (wCons (wVar 0) (wCons (wC (.str "mn")) (wCons (wC (.int 12)) wNil)))))) wNext)
    (wSeqS (wSet 6 (wSl (wL kTupZ (wCons (wL kSorted (wCons (wL kDict (wCons (wLc [5] (wSeq (wHv 2)) (wN 5) wYes (wTup (wCons (wImm (wVar 5)) (wCons (wC (.bl true)) wNil)))) wNil)) wNil)) wNil)) wNoPart (wPart (wC (.int 60)))))
    (wSeqS (wUnp2 7 8 (wL g__law_odd (wCons (wVar 6) wNil)))
    (wSeqS (wSet 9 (wL g__law_hanging (wCons (wVar 6) wNil)))
    (wSeqS (wPar 10 11 (wCons (wL g_chain (wCons (wVar 6) wNil)) (wCons (wL g_bar (wCons (wVar 6) wNil)) wNil)))
    (wSeqS (wIfS (wOrT (wTB (wB kNe (wB kIsNot (wVar 10) (wC .non)) (wAndV (wVar 8) (wB kEq (wL kLen (wCons (wVar 9) wNil)) (wL kLen (wCons (wVar 6) wNil)))))) (wTB (wB kNe (wB kIs (wVar 11) (wC .non)) (wB kIsNot (wVar 10) (wC .non))))) (wRet (wC (.bl false))) wNext)
    (wSeqS (wIfS (wTB (wB kIs (wVar 10) (wC .non))) (wRet (wB kEq (wVar 11) (wIf (wNotT (wTB (wVar 8))) (wTup (wCons (wC (.str "letters")) (wCons (wImm (wVar 7)) wNil))) (wTup (wCons (wC (.str "apart")) (wCons (wImm (wVar 9)) wNil)))))) wNext)
    (wSeqS (wIfS (wOrT (wNotT (wTB (wL g__law_is_one (wCons (wVar 6) (wCons (wVar 10) wNil))))) (wTB (wB kIsNot (wL g_is_chain (wCons (wVar 6) (wCons (wVar 10) wNil))) (wC (.bl true))))) (wRet (wC (.bl false))) wNext)
    (wSeqS (wIfS (wAndT (wTB (wB kEq (wVar 3) (wC (.int 0)))) (wTB (wB kEq (wL kLen (wCons (wVar 6) wNil)) (wL kLen (wCons (wVar 2) wNil))))) (wSeqS (wSet 12 (wL kTuple (wCons (wLc [5] (wSeq (wHv 2)) (wN 5) wYes (wIndexT (wVar 6) (wVar 5))) wNil)))
    (wIfS (wTB (wB kNe (wL g_is_chain (wCons (wVar 6) (wCons (wVar 12) wNil))) (wL g__law_is_one (wCons (wVar 6) (wCons (wVar 12) wNil))))) (wRet (wC (.bl false))) wNext)) wNext)
    (wSeqS (wPar 4 13 (wCons (wL g__law_draw (wCons (wVar 0) (wCons (wL kLen (wCons (wVar 6) wNil)) wNil))) (wCons (wL g__law_draw (wCons (wVar 0) (wCons (wL kLen (wCons (wVar 6) wNil)) wNil))) wNil)))
    (wSeqS (wSet 14 (wL kList (wCons (wVar 10) wNil)))
    (wSeqS (wAsg (wTup (wCons (wImm (wB kIx (wVar 14) (wVar 13))) (wCons (wImm (wB kIx (wVar 14) (wVar 4))) wNil))) (wMT2 (wSub 14 (wVar 4)) (wSub 14 (wVar 13))))
    (wRet (wAndV (wB kEq (wL g_is_chain (wCons (wVar 6) (wCons (wL kTuple (wCons (wVar 14) wNil)) wNil))) (wL g__law_is_one (wCons (wVar 6) (wCons (wVar 14) wNil)))) (wAndV (wB kIs (wL g_is_chain (wCons (wVar 6) (wCons (wVar 14) wNil))) (wC (.bl false))) (wB kIs (wL g_is_chain (wCons (wVar 6) (wCons (wSl (wVar 10) (wPart (wC (.int 1))) wNoPart) wNil))) (wC (.bl false))))))))))))))))))))))
theorem b__law_is_right {P : Program} {w : World} {K : PySem.W.Frag} {mg : Str → Option Value} {base : Heap} {h : Hd} {f : Addr} (Fa : Facts mg) (C__law_letters : Cal P w K mg base 3 "_law_letters" ["hand", "many"] g__law_letters) (C__law_any : Cal P w K mg base 2 "_law_any" ["hand", "some"] g__law_any) (C__law_walk : Cal P w K mg base 3 "_law_walk" ["hand", "letters", "size"] g__law_walk) (C__law_draw : Cal P w K mg base 1 "_law_draw" ["hand", "many"] g__law_draw) (C__law_odd : Cal P w K mg base 1 "_law_odd" ["book"] g__law_odd) (C__law_hanging : Cal P w K mg base 1 "_law_hanging" ["book"] g__law_hanging) (C_chain : Cal P w K mg base 5 "chain" ["book"] g_chain) (C_bar : Cal P w K mg base 5 "bar" ["book"] g_bar) (C_is_chain : Cal P w K mg base 5 "is_chain" ["book", "thing"] g_is_chain) (C__law_is_one : Cal P w K mg base 1 "_law_is_one" ["book", "row"] g__law_is_one) (cdv : Value) (A : Around) (outer : List Env) (s : Shared) (H : Hp) (E : XK) (hr : Room 5 (A.deeper (envOfC "_law_is_right" (defScope s__law_is_right) s.heap.objs.size f cdv))) :
    PSs (cxOf CX0 P w K mg base ["hand", "letters", "words", "kind", "at", "word", "book", "odd", "can", "lot", "told", "paper", "own", "to", "row"] "_law_is_right" (defScope s__law_is_right) f cdv A outer s H E).nox (defBody s__law_is_right) (tS h w__law_is_right) :=
    (qcons (qset (i := 1) sc__law_is_right.nd rfl (by first | exact .inl rfl | exact .inr rfl) (pcall C__law_letters (hr.mono (by decide)) (by rfl) (pa_cons_p (pvar (pv 0)) (pa_cons_p (pf_p (pcall C__law_any (hr.mono (by decide)) (by rfl) (pa_cons_p (pvar (pv 0)) (pa_cons_p (pf_p (plst (pa_cons_f (pconst pe_int) (pa_cons_f (pconst pe_int) (pa_cons_f (pconst pe_int) (pa_cons_f (pconst pe_int) panil)))))) (paf_p panil))))) (paf_p panil)))))
    (qcons (qset (i := 2) sc__law_is_right.nd rfl (by first | exact .inl rfl | exact .inr rfl) (pcall C__law_walk (hr.mono (by decide)) (by rfl) (pa_cons_p (pvar (pv 0)) (pa_cons_p (pvar (pv 1)) (pa_cons_p (pf_p (pb o_add s_add (pf_p (pconst pe_int)) (pf_p (pcall C__law_draw (hr.mono (by decide)) (by rfl) (pa_cons_p (pvar (pv 0)) (pa_cons_p (pf_p (pconst pe_int)) (paf_p panil))))))) (paf_p panil))))))
    (qcons (qset (i := 3) sc__law_is_right.nd rfl (by first | exact .inl rfl | exact .inr rfl) (pcall C__law_draw (hr.mono (by decide)) (by rfl) (pa_cons_p (pvar (pv 0)) (pa_cons_p (pf_p (pconst pe_int)) (paf_p panil)))))
    (qcons (qif (ptc (op_eqD hr.units) s_eq (pvar (pv 3)) (pf_p (pconst pe_int)) (nomark _)) (qcons (qset (i := 4) sc__law_is_right.nd rfl (by first | exact .inl rfl | exact .inr rfl) (pcall C__law_draw (hr.mono (by decide)) (by rfl) (pa_cons_p (pvar (pv 0)) (pa_cons_p (pf_p (pxb x_len (by rfl) Fa.m_len bt_len (pa_cons_p (pvar (pv 2)) (paf_p panil)))) (paf_p panil)))))
    (qone (qstore (i := 2) (hu_of hr) (pv 2) (pvar (pv 4)) (prevS (pix (o_ix (hu_of hr)) s_ix (pvar (pv 2)) (pvar (pv 4)) (fun _ _ => rfl)))))) qnil)
    (qcons (qif (ptc (op_eqD hr.units) s_eq (pvar (pv 3)) (pf_p (pconst pe_int)) (nomark _)) (qone (qset (i := 2) sc__law_is_right.nd rfl (by first | exact .inl rfl | exact .inr rfl) (pb o_add s_add (pf_p (psl (pvar (pv 2)) po0 (po1 (pf_p (pconst pe_int))))) (pf_p (pcall C__law_walk (hr.mono (by decide)) (by rfl) (pa_cons_p (pvar (pv 0)) (pa_cons_p (pf_p (pconst pe_str)) (pa_cons_p (pf_p (pconst pe_int)) (paf_p panil))))))))) qnil)
    (qcons (qset (i := 6) sc__law_is_right.nd rfl (by first | exact .inl rfl | exact .inr rfl) (psl (pf_p (pxt x_tupZ (by rfl) Fa.m_tuple bt_tuple (pa_cons_p (pf_p (pxb (x_sorted rfl hr.units) (by rfl) Fa.m_sorted bt_sorted (pa_cons_p (pf_p (pct (call_dictP rfl) s_dict (by rfl) Fa.m_dict bt_dict (pa_cons_p (pf_p (plc rfl sc__law_is_right.nd (it_seq (ph_v (i := 2) (pv 2))) (blkOk_by (own := [("word", 5)]) (by show blkC ["hand", "letters", "words", "kind", "at", "word", "book", "odd", "can", "lot", "told", "paper", "own", "to", "row"] (defScope s__law_is_right) _ _ = true; decide +kernel)) (fun _ _ _ _ _ => (tg_name (i := 5) sc__law_is_right.nd rfl (by first | exact .inl rfl | exact .inr rfl))) (fun _ _ _ _ _ => ptsnil) (fun _ _ _ _ _ => (ptup (pa_cons_f (pp_f (pvar (pv 5))) (pa_cons_f (pconst pe_bl) panil)))))) (paf_p panil)))) (paf_p panil)))) (paf_p panil)))) po0 (po1 (pf_p (pconst pe_int)))))
    (qcons (qunp2 (i := 7) (j := 8) rfl sc__law_is_right.nd rfl rfl (by first | exact .inl rfl | exact .inr rfl) (by first | exact .inl rfl | exact .inr rfl) (pcall C__law_odd (hr.mono (by decide)) (by rfl) (pa_cons_p (pvar (pv 6)) (paf_p panil))))
    (qcons (qset (i := 9) sc__law_is_right.nd rfl (by first | exact .inl rfl | exact .inr rfl) (pcall C__law_hanging (hr.mono (by decide)) (by rfl) (pa_cons_p (pvar (pv 6)) (paf_p panil))))
    (qcons (qpar (i := 10) (j := 11) rfl sc__law_is_right.nd rfl rfl (by decide) rfl rfl (pa_cons_f (pcall C_chain (hr.mono (by decide)) (by rfl) (pa_cons_p (pvar (pv 6)) (paf_p panil))) (pa_cons_f (pcall C_bar (hr.mono (by decide)) (by rfl) (pa_cons_p (pvar (pv 6)) (paf_p panil))) panil)) rfl)
    (qcons (qif (ptor (ptc (op_neD hr.units) s_ne (pf_p (pc o_isNot s_isNot (pvar (pv 10)) (pf_p (pconst pe_non)) (nomark _))) (pf_p (pand (pvar (pv 8)) (pone (pc (op_eqD hr.units) s_eq (pf_p (pxb x_len (by rfl) Fa.m_len bt_len (pa_cons_p (pvar (pv 9)) (paf_p panil)))) (pf_p (pxb x_len (by rfl) Fa.m_len bt_len (pa_cons_p (pvar (pv 6)) (paf_p panil)))) (nomark _))))) (nomark _)) (ptor1 (ptc (op_neD hr.units) s_ne (pf_p (pc o_is s_is (pvar (pv 11)) (pf_p (pconst pe_non)) (nomark _))) (pf_p (pc o_isNot s_isNot (pvar (pv 10)) (pf_p (pconst pe_non)) (nomark _))) (nomark _)))).pt (qone (qret (pconst pe_bl))) qnil)
    (qcons (qif (ptc o_is s_is (pvar (pv 10)) (pf_p (pconst pe_non)) (nomark _)) (qone (qret (pc (op_eqD hr.units) s_eq (pvar (pv 11)) (pifP (ptnot (ptb (pvar (pv 8)))) (pf_p (ptup (pa_cons_f (pconst pe_str) (pa_cons_f (pp_f (pvar (pv 7))) panil)))) (pf_p (ptup (pa_cons_f (pconst pe_str) (pa_cons_f (pp_f (pvar (pv 9))) panil))))) (nomark _)))) qnil)
    (qcons (qif (ptor (ptnot (ptb (pf_p (pcall C__law_is_one (hr.mono (by decide)) (by rfl) (pa_cons_p (pvar (pv 6)) (pa_cons_p (pvar (pv 10)) (paf_p panil))))))) (ptor1 (ptc o_isNot s_isNot (pf_p (pcall C_is_chain (hr.mono (by decide)) (by rfl) (pa_cons_p (pvar (pv 6)) (pa_cons_p (pvar (pv 10)) (paf_p panil))))) (pf_p (pconst pe_bl)) (nomark _)))).pt (qone (qret (pconst pe_bl))) qnil)
    (qcons (qif (ptand (ptc (op_eqD hr.units) s_eq (pvar (pv 3)) (pf_p (pconst pe_int)) (nomark _)) (ptand1 (ptc (op_eqD hr.units) s_eq (pf_p (pxb x_len (by rfl) Fa.m_len bt_len (pa_cons_p (pvar (pv 6)) (paf_p panil)))) (pf_p (pxb x_len (by rfl) Fa.m_len bt_len (pa_cons_p (pvar (pv 2)) (paf_p panil)))) (nomark _)))).pt (qcons (qset (i := 12) sc__law_is_right.nd rfl (by first | exact .inl rfl | exact .inr rfl) (pct call_tuple_of s_tuple (by rfl) Fa.m_tuple bt_tuple (pa_cons_p (pf_p (plc rfl sc__law_is_right.nd (it_seq (ph_v (i := 2) (pv 2))) (blkOk_by (own := [("word", 5)]) (by show blkC ["hand", "letters", "words", "kind", "at", "word", "book", "odd", "can", "lot", "told", "paper", "own", "to", "row"] (defScope s__law_is_right) _ _ = true; decide +kernel)) (fun _ _ _ _ _ => (tg_name (i := 5) sc__law_is_right.nd rfl (by first | exact .inl rfl | exact .inr rfl))) (fun _ _ _ _ _ => ptsnil) (fun _ _ _ _ _ => (pindexT (pvar (pv 6)) (pvar (pv 5)))))) (paf_p panil))))
    (qone (qif (ptc (op_neD hr.units) s_ne (pf_p (pcall C_is_chain (hr.mono (by decide)) (by rfl) (pa_cons_p (pvar (pv 6)) (pa_cons_p (pvar (pv 12)) (paf_p panil))))) (pf_p (pcall C__law_is_one (hr.mono (by decide)) (by rfl) (pa_cons_p (pvar (pv 6)) (pa_cons_p (pvar (pv 12)) (paf_p panil))))) (nomark _)) (qone (qret (pconst pe_bl))) qnil))) qnil)
    (qcons (qpar (i := 4) (j := 13) rfl sc__law_is_right.nd rfl rfl (by decide) rfl rfl (pa_cons_f (pcall C__law_draw (hr.mono (by decide)) (by rfl) (pa_cons_p (pvar (pv 0)) (pa_cons_p (pf_p (pxb x_len (by rfl) Fa.m_len bt_len (pa_cons_p (pvar (pv 6)) (paf_p panil)))) (paf_p panil)))) (pa_cons_f (pcall C__law_draw (hr.mono (by decide)) (by rfl) (pa_cons_p (pvar (pv 0)) (pa_cons_p (pf_p (pxb x_len (by rfl) Fa.m_len bt_len (pa_cons_p (pvar (pv 6)) (paf_p panil)))) (paf_p panil)))) panil)) rfl)
    (qcons (qset (i := 14) sc__law_is_right.nd rfl (by first | exact .inl rfl | exact .inr rfl) (pxt (x_list rfl) (by rfl) Fa.m_list bt_list (pa_cons_p (pvar (pv 10)) (paf_p panil))))
    (qcons (qasgM (ptup (pa_cons_f (pp_f (pix (o_ix (hu_of hr)) s_ix (pvar (pv 14)) (pvar (pv 13)) (fun _ _ => rfl))) (pa_cons_f (pp_f (pix (o_ix (hu_of hr)) s_ix (pvar (pv 14)) (pvar (pv 4)) (fun _ _ => rfl))) panil))) (tm_tup2 rfl (tms_cons (tm_sub (i := 14) (hu_of hr) (pv 14) (pvar (pv 4))) (tms_cons (tm_sub (i := 14) (hu_of hr) (pv 14) (pvar (pv 13))) tms_nil))))
    (qone (qret (pand (pf_p (pc (op_eqD hr.units) s_eq (pf_p (pcall C_is_chain (hr.mono (by decide)) (by rfl) (pa_cons_p (pvar (pv 6)) (pa_cons_p (pf_p (pct call_tuple_of s_tuple (by rfl) Fa.m_tuple bt_tuple (pa_cons_p (pvar (pv 14)) (paf_p panil)))) (paf_p panil))))) (pf_p (pcall C__law_is_one (hr.mono (by decide)) (by rfl) (pa_cons_p (pvar (pv 6)) (pa_cons_p (pvar (pv 14)) (paf_p panil))))) (nomark _))) (pand (pf_p (pc o_is s_is (pf_p (pcall C_is_chain (hr.mono (by decide)) (by rfl) (pa_cons_p (pvar (pv 6)) (pa_cons_p (pvar (pv 14)) (paf_p panil))))) (pf_p (pconst pe_bl)) (nomark _))) (pone (pc o_is s_is (pf_p (pcall C_is_chain (hr.mono (by decide)) (by rfl) (pa_cons_p (pvar (pv 6)) (pa_cons_p (pf_p (psl (pvar (pv 10)) (po1 (pf_p (pconst pe_int))) po0)) (paf_p panil))))) (pf_p (pconst pe_bl)) (nomark _)))))))))))))))))))))))
theorem c__law_is_right {P : Program} {w : World} {K : PySem.W.Frag} {mg : Str → Option Value} {base : Heap} {f : Addr} {fd : FuncData} (F : Fun K "_law_is_right" "_law_is_right" s__law_is_right f fd) (m : mg "_law_is_right" = some (.ref f)) (Fa : Facts mg) (C__law_letters : Cal P w K mg base 3 "_law_letters" ["hand", "many"] g__law_letters) (C__law_any : Cal P w K mg base 2 "_law_any" ["hand", "some"] g__law_any) (C__law_walk : Cal P w K mg base 3 "_law_walk" ["hand", "letters", "size"] g__law_walk) (C__law_draw : Cal P w K mg base 1 "_law_draw" ["hand", "many"] g__law_draw) (C__law_odd : Cal P w K mg base 1 "_law_odd" ["book"] g__law_odd) (C__law_hanging : Cal P w K mg base 1 "_law_hanging" ["book"] g__law_hanging) (C_chain : Cal P w K mg base 5 "chain" ["book"] g_chain) (C_bar : Cal P w K mg base 5 "bar" ["book"] g_bar) (C_is_chain : Cal P w K mg base 5 "is_chain" ["book", "thing"] g_is_chain) (C__law_is_one : Cal P w K mg base 1 "_law_is_one" ["book", "row"] g__law_is_one) (len : ∀ ds R, g__law_is_right ds R → ds.length = 1) (law : ∀ ds R, g__law_is_right ds R → w__law_is_right { nx := fun _ => R (.v .non), rt := R } (startR ["hand", "letters", "words", "kind", "at", "word", "book", "odd", "can", "lot", "told", "paper", "own", "to", "row"] ds)) : Cal P w K mg base 6 "_law_is_right" ["hand"] g__law_is_right :=
  ⟨f, fd, m, F.kp, F.binds fun _ _ _ _ _ _ us hl => match us, hl with | [_], _ => rfl, fun h => def_ok F sc__law_is_right len (fun cdv A outer s H E hr => b__law_is_right Fa C__law_letters C__law_any C__law_walk C__law_draw C__law_odd C__law_hanging C_chain C_bar C_is_chain C__law_is_one cdv A outer s H E hr) law⟩
end K20

namespace K20
open PySem PySem.Spec PyProof.Rows L2 PL
theorem inst_ii : instRes "int" "int" = some true := by decide +kernel
theorem inst_ib : instRes "int" "bool" = some false := by decide +kernel
theorem inst_ss : instRes "str" "str" = some true := by decide +kernel
theorem inst_tt : instRes "tuple" "tuple" = some true := by decide +kernel
theorem inst_lt : instRes "list" "tuple" = some false := by decide +kernel
theorem k_inst (d : D) (t T : String) {b : Bool} {R : D → Prop} (e : tyN d = some t) (i : instRes t T = some b) (h : R (B b)) : kInst [d, .v (.ty T)] R := by
  unfold kInst
  simp only [e, i]
  exact h
/-! ### list comprehensions, all(..) -/
theorem lcW_fm {t : WG} {ct : WT} {el : WE} {ρ : Rho} {R : D → Prop} (f : D → Option D) : ∀ (items acc : List D), (∀ x ∈ items, ∀ K : Option D → Prop, K (f x) → t x ρ fun ρ1 => ct ρ1 fun b => if b = true then el ρ1 fun y => K (some y) else K none) →
    acc.length + items.length ≤ 1000 → R (.lst (acc ++ items.filterMap f)) → lcW t ct el ρ items acc R
  | [], acc, _, _, h => by rw [List.filterMap_nil, List.append_nil] at h; exact h
  | x :: xs, acc, hx, hl, h => by
    rw [List.length_cons] at hl
    refine hx x (by simp) (fun o => match o with
      | some y => acc.length < sizeLine ∧ lcW t ct el ρ xs (acc ++ [y]) R
      | none => lcW t ct el ρ xs acc R) ?_
    have hx' : ∀ x ∈ xs, ∀ K : Option D → Prop, K (f x) → t x ρ fun ρ1 => ct ρ1 fun b => if b = true then el ρ1 fun y => K (some y) else K none := fun z hz => hx z (by simp [hz])
    cases e : f x with
    | none =>
      rw [List.filterMap_cons, e] at h
      exact lcW_fm f xs acc hx' (by omega) h
    | some y =>
      rw [List.filterMap_cons, e] at h
      refine ⟨small1000 (by omega), lcW_fm f xs (acc ++ [y]) hx' (by rw [List.length_append, List.length_singleton]; omega) ?_⟩
      rw [List.append_assoc]
      exact h
theorem lcW_map {t : WG} {el : WE} {ρ : Rho} {R : D → Prop} (f : D → D) {items : List D} (hx : ∀ x ∈ items, ∀ K : D → Prop, K (f x) → t x ρ fun ρ1 => el ρ1 K) (hl : items.length ≤ 1000) (h : R (.lst (items.map f))) : lcW t wYes el ρ items [] R := by
  refine lcW_fm (fun x => some (f x)) items [] (fun x hm K hK => ?_) (by simpa using hl) (by simpa using h)
  have := hx x hm (fun y => K (some y)) hK
  exact this
theorem boolsOf_map (bs : List Bool) : boolsOf (bs.map fun b => B b) = some bs := by
  induction bs with
  | nil => rfl
  | cons b bs ih => rw [List.map_cons, boolsOf, ih]
theorem k_all {bs : List Bool} {R : D → Prop} (h : R (B (bs.all id))) : kAll [.lst (bs.map fun b => B b)] R := by
  unfold kAll
  simp only [boolsOf_map]
  exact h
/-! ### the first defs -/
theorem l_is_integer : ∀ ds R, g_is_integer ds R → w_is_integer { nx := fun _ => R (.v .non), rt := R } (startR ["thing"] ds) := by
  rintro ds R ⟨i, rfl, h⟩
  change w_is_integer _ [.bor (N i)]
  simp only [w_is_integer, wSeqS, wNext, wSet, wDrop, wRet, wRetV, wRetN, wIfS, wPar, wPar3, wAsg, wUnp2, wVar, wHv, wC, wB, wU, wNil, wCons, wL, wImm, wTup, wLst, wIf, asB, wTB, wAndV, wOrV, wAndT, wOrT, wNotT, wChain, wNoPart, wPart, wSl, wGet, wYes, wN, List.getElem?_cons_zero, List.getElem?_cons_succ, List.set_cons_zero, List.set_cons_succ, List.length_cons, List.length_nil, if_true, if_false, Bool.false_eq_true, ↓reduceIte]
  refine k_inst _ "int" "int" rfl inst_ii ?_
  simp only [wSeqS, wNext, wSet, wDrop, wRet, wRetV, wRetN, wIfS, wPar, wPar3, wAsg, wUnp2, wVar, wHv, wC, wB, wU, wNil, wCons, wL, wImm, wTup, wLst, wIf, asB, wTB, wAndV, wOrV, wAndT, wOrT, wNotT, wChain, wNoPart, wPart, wSl, wGet, wYes, wN, List.getElem?_cons_zero, List.getElem?_cons_succ, List.set_cons_zero, List.set_cons_succ, List.length_cons, List.length_nil, if_true, if_false, Bool.false_eq_true, ↓reduceIte]
  refine k_inst _ "int" "bool" rfl inst_ib ?_
  exact h
theorem l_is_within : ∀ ds R, g_is_within ds R → w_is_within { nx := fun _ => R (.v .non), rt := R } (startR ["thing", "least", "most"] ds) := by
  rintro ds R ⟨i, a, b, rfl, h⟩
  change w_is_within _ [.bor (N i), .bor (N a), .bor (N b)]
  simp only [w_is_within, wSeqS, wNext, wSet, wDrop, wRet, wRetV, wRetN, wIfS, wPar, wPar3, wAsg, wUnp2, wVar, wHv, wC, wB, wU, wNil, wCons, wL, wImm, wTup, wLst, wIf, asB, wTB, wAndV, wOrV, wAndT, wOrT, wNotT, wChain, wNoPart, wPart, wSl, wGet, wYes, wN, List.getElem?_cons_zero, List.getElem?_cons_succ, List.set_cons_zero, List.set_cons_succ, List.length_cons, List.length_nil, if_true, if_false, Bool.false_eq_true, ↓reduceIte]
  refine ⟨i, rfl, ?_⟩
  simp only [wSeqS, wNext, wSet, wDrop, wRet, wRetV, wRetN, wIfS, wPar, wPar3, wAsg, wUnp2, wVar, wHv, wC, wB, wU, wNil, wCons, wL, wImm, wTup, wLst, wIf, asB, wTB, wAndV, wOrV, wAndT, wOrT, wNotT, wChain, wNoPart, wPart, wSl, wGet, wYes, wN, List.getElem?_cons_zero, List.getElem?_cons_succ, List.set_cons_zero, List.set_cons_succ, List.length_cons, List.length_nil, if_true, if_false, Bool.false_eq_true, ↓reduceIte, kLe]
  by_cases h1 : a ≤ i <;> by_cases h2 : i ≤ b <;> simp [h1, h2] at h ⊢ <;> exact h
theorem signs_map (w : Str) : PL.signs w = w.cps.toList.map fun c => T (sgn c) := rfl
theorem lower (c : Nat) (h : 97 ≤ c ∧ c ≤ 122) : c ∈ lettersS.cps.toList := by
  obtain ⟨h1, h2⟩ := h
  have : ∀ k, k < 26 → 97 + k ∈ lettersS.cps.toList := by decide +kernel
  have := this (c - 97) (by omega)
  rwa [show 97 + (c - 97) = c by omega] at this
theorem kIn_sgn {c : Nat} {z : Str} {R : D → Prop} (h : R (B (decide (c ∈ z.cps.toList)))) : kIn (T (sgn c)) (T z) R := h
theorem k_len_txt {w : Str} {R : D → Prop} (hl : w.length ≤ 1000) (h : R (Nn w.length)) : kLen [T w] R := ⟨Nat.le_of_lt (small1000 hl), h⟩
theorem all_true {α : Type} (l : List α) : (l.map fun _ => true).all id = true := by
  induction l with
  | nil => rfl
  | cons a l ih => exact ih
theorem l_is_letters : ∀ ds R, g_is_letters ds R → w_is_letters { nx := fun _ => R (.v .non), rt := R } (startR ["thing", "least", "most", "sign"] ds) := by
  rintro ds R ⟨w, a, b, rfl, hw, hl, h⟩
  change w_is_letters _ [.bor (T w), .bor (N a), .bor (N b), .no]
  simp only [w_is_letters, wSeqS, wNext, wSet, wDrop, wRet, wRetV, wRetN, wIfS, wPar, wPar3, wAsg, wUnp2, wVar, wHv, wC, wB, wU, wNil, wCons, wL, wImm, wTup, wLst, wIf, asB, wTB, wAndV, wOrV, wAndT, wOrT, wNotT, wChain, wNoPart, wPart, wSl, wGet, wYes, wN, List.getElem?_cons_zero, List.getElem?_cons_succ, List.set_cons_zero, List.set_cons_succ, List.length_cons, List.length_nil, if_true, if_false, Bool.false_eq_true, ↓reduceIte]
  refine k_inst _ "str" "str" rfl inst_ss ?_
  simp only [wSeqS, wNext, wSet, wDrop, wRet, wRetV, wRetN, wIfS, wPar, wPar3, wAsg, wUnp2, wVar, wHv, wC, wB, wU, wNil, wCons, wL, wImm, wTup, wLst, wIf, asB, wTB, wAndV, wOrV, wAndT, wOrT, wNotT, wChain, wNoPart, wPart, wSl, wGet, wYes, wN, List.getElem?_cons_zero, List.getElem?_cons_succ, List.set_cons_zero, List.set_cons_succ, List.length_cons, List.length_nil, if_true, if_false, Bool.false_eq_true, ↓reduceIte]
  refine k_len_txt (w := w) (by omega) ?_
  simp only [wSeqS, wNext, wSet, wDrop, wRet, wRetV, wRetN, wIfS, wPar, wPar3, wAsg, wUnp2, wVar, wHv, wC, wB, wU, wNil, wCons, wL, wImm, wTup, wLst, wIf, asB, wTB, wAndV, wOrV, wAndT, wOrT, wNotT, wChain, wNoPart, wPart, wSl, wGet, wYes, wN, List.getElem?_cons_zero, List.getElem?_cons_succ, List.set_cons_zero, List.set_cons_succ, List.length_cons, List.length_nil, if_true, if_false, Bool.false_eq_true, ↓reduceIte, kLe]
  by_cases h1 : a ≤ (w.length : Int)
  · simp only [decide_eq_true h1, wSeqS, wNext, wSet, wDrop, wRet, wRetV, wRetN, wIfS, wPar, wPar3, wAsg, wUnp2, wVar, wHv, wC, wB, wU, wNil, wCons, wL, wImm, wTup, wLst, wIf, asB, wTB, wAndV, wOrV, wAndT, wOrT, wNotT, wChain, wNoPart, wPart, wSl, wGet, wYes, wN, List.getElem?_cons_zero, List.getElem?_cons_succ, List.set_cons_zero, List.set_cons_succ, List.length_cons, List.length_nil, if_true, if_false, Bool.false_eq_true, ↓reduceIte]
    by_cases h2 : (w.length : Int) ≤ b
    · simp only [decide_eq_true h2, wSeqS, wNext, wSet, wDrop, wRet, wRetV, wRetN, wIfS, wPar, wPar3, wAsg, wUnp2, wVar, wHv, wC, wB, wU, wNil, wCons, wL, wImm, wTup, wLst, wIf, asB, wTB, wAndV, wOrV, wAndT, wOrT, wNotT, wChain, wNoPart, wPart, wSl, wGet, wYes, wN, List.getElem?_cons_zero, List.getElem?_cons_succ, List.set_cons_zero, List.set_cons_succ, List.length_cons, List.length_nil, if_true, if_false, Bool.false_eq_true, ↓reduceIte]
      simp only [h1, h2, and_self, decide_true] at h
      refine ⟨immL_map _ (fun _ => rfl) _, ?_⟩
      refine lcW_map (fun _ => B true) (fun x hx K hK => ?_) ?_ ?_
      · rw [signs_map] at hx
        obtain ⟨c, hc, rfl⟩ := List.mem_map.mp hx
        refine ⟨(by decide : (3 : Nat) < 4), ?_⟩
        refine kIn_sgn ?_
        show K (B (decide (c ∈ lettersS.cps.toList)))
        rw [decide_eq_true (lower c (hw c hc))]
        exact hK
      · rw [signs_map, List.length_map, Array.length_toList]
        exact Nat.le_trans hl (by decide)
      · rw [show (PL.signs w).map (fun _ => B true) = ((PL.signs w).map fun _ => true).map fun b => B b by rw [List.map_map]; rfl]
        exact k_all (by rw [all_true]; exact h)
    · simp only [decide_eq_false h2, wSeqS, wNext, wSet, wDrop, wRet, wRetV, wRetN, wIfS, wPar, wPar3, wAsg, wUnp2, wVar, wHv, wC, wB, wU, wNil, wCons, wL, wImm, wTup, wLst, wIf, asB, wTB, wAndV, wOrV, wAndT, wOrT, wNotT, wChain, wNoPart, wPart, wSl, wGet, wYes, wN, List.getElem?_cons_zero, List.getElem?_cons_succ, List.set_cons_zero, List.set_cons_succ, List.length_cons, List.length_nil, if_true, if_false, Bool.false_eq_true, ↓reduceIte]
      simp only [h2, and_false, decide_false] at h
      exact h
  · simp only [decide_eq_false h1, wSeqS, wNext, wSet, wDrop, wRet, wRetV, wRetN, wIfS, wPar, wPar3, wAsg, wUnp2, wVar, wHv, wC, wB, wU, wNil, wCons, wL, wImm, wTup, wLst, wIf, asB, wTB, wAndV, wOrV, wAndT, wOrT, wNotT, wChain, wNoPart, wPart, wSl, wGet, wYes, wN, List.getElem?_cons_zero, List.getElem?_cons_succ, List.set_cons_zero, List.set_cons_succ, List.length_cons, List.length_nil, if_true, if_false, Bool.false_eq_true, ↓reduceIte]
    simp only [h1, false_and, decide_false] at h
    exact h
/-! ### by what the items are made of -/
theorem lcW_of {α : Type} {t : WG} {ct : WT} {el : WE} {ρ : Rho} {R : D → Prop} (g : α → D) (f : α → Option D) : ∀ (l : List α) (acc : List D), (∀ a ∈ l, ∀ K : Option D → Prop, K (f a) → t (g a) ρ fun ρ1 => ct ρ1 fun b => if b = true then el ρ1 fun y => K (some y) else K none) →
    acc.length + l.length ≤ 1000 → R (.lst (acc ++ l.filterMap f)) → lcW t ct el ρ (l.map g) acc R
  | [], acc, _, _, h => by rw [List.filterMap_nil, List.append_nil] at h; exact h
  | x :: xs, acc, hx, hl, h => by
    rw [List.length_cons] at hl
    refine hx x (by simp) (fun o => match o with
      | some y => acc.length < sizeLine ∧ lcW t ct el ρ (xs.map g) (acc ++ [y]) R
      | none => lcW t ct el ρ (xs.map g) acc R) ?_
    have hx' : ∀ a ∈ xs, ∀ K : Option D → Prop, K (f a) → t (g a) ρ fun ρ1 => ct ρ1 fun b => if b = true then el ρ1 fun y => K (some y) else K none := fun z hz => hx z (by simp [hz])
    cases e : f x with
    | none =>
      rw [List.filterMap_cons, e] at h
      exact lcW_of g f xs acc hx' (by omega) h
    | some y =>
      rw [List.filterMap_cons, e] at h
      refine ⟨small1000 (by omega), lcW_of g f xs (acc ++ [y]) hx' (by rw [List.length_append, List.length_singleton]; omega) ?_⟩
      rw [List.append_assoc]
      exact h
theorem lcW_mapI {α : Type} {t : WG} {el : WE} {ρ : Rho} {R : D → Prop} (g : α → D) (f : α → D) {l : List α} (hx : ∀ a ∈ l, ∀ K : D → Prop, K (f a) → t (g a) ρ fun ρ1 => el ρ1 K) (hl : l.length ≤ 1000) (h : R (.lst (l.map f))) : lcW t wYes el ρ (l.map g) [] R := by
  refine lcW_of g (fun a => some (f a)) l [] (fun a hm K hK => ?_) (by simpa using hl) (by simpa using h)
  exact hx a hm (fun y => K (some y)) hK
theorem zip_next {α : Type} (f : α → D) (l : List α) : ((l.map f).zipWith (fun a b => D.tup false [a, b]) ((l.map f).drop 1)) = (l.zip (l.drop 1)).map fun p => .tup false [f p.1, f p.2] := by
  rw [← List.map_drop, List.zipWith_map, List.zip, List.map_zipWith]
theorem imm_T (ws : List Str) : immL (ws.map T) = true := immL_map T (fun _ => rfl) ws
theorem imm_N (ns : List Int) : immL (ns.map N) = true := immL_map N (fun _ => rfl) ns
theorem imm_drop : ∀ {ds : List D} (n : Nat), immL ds = true → immL (ds.drop n) = true
  | ds, 0, h => h
  | [], n + 1, h => h
  | d :: ds, n + 1, h => by
    have h' : (d.imm && immL ds) = true := h
    rw [Bool.and_eq_true] at h'
    exact imm_drop n h'.2
theorem sIx1 (n : Nat) : HT.sIx n 0 (some 1) = min 1 n := HT.sIx_nat n 0 1
theorem cut_tail {α : Type} (xs : List α) : cutL xs (some 1) none = xs.drop 1 := by
  unfold cutL
  rw [sIx1, HT.sIx_none]
  cases xs with
  | nil => rfl
  | cons x r =>
    rw [List.length_cons, show min 1 (r.length + 1) = 1 by omega]
    exact List.take_of_length_le (by rw [List.length_drop, List.length_cons]; omega)
theorem sl_tail {z : Bool} {ds : List D} {R : D → Prop} (im : immL ds = true) (h : ∀ z', R (.tup z' (ds.drop 1))) : kSl (.tup z ds) (some 1) none R := by
  refine ⟨im, fun e => ?_, fun _ => by rw [cut_tail]; exact h false⟩
  have e1 := e.1
  rw [sIx1] at e1
  have : ds = [] := List.length_eq_zero_iff.mp (by omega)
  subst this
  exact h z
theorem sl_tailL {ds : List D} {R : D → Prop} (im : immL ds = true) (h : R (.lst (ds.drop 1))) : kSl (.lst ds) (some 1) none R := ⟨im, by rw [cut_tail]; exact h⟩
theorem all_mapB {α : Type} (f : α → Bool) (l : List α) {R : D → Prop} (h : R (B (l.all f))) : kAll [.lst (l.map fun a => B (f a))] R := by
  have := k_all (bs := l.map f) (R := R) (by rw [List.all_map]; exact h)
  rw [List.map_map] at this
  exact this
theorem l_is_word : ∀ ds R, g_is_word ds R → w_is_word { nx := fun _ => R (.v .non), rt := R } (startR ["thing"] ds) := by
  rintro ds R ⟨w, rfl, hw, h⟩
  change w_is_word _ [.bor (T w)]
  simp only [w_is_word, wSeqS, wNext, wSet, wDrop, wRet, wRetV, wRetN, wIfS, wPar, wPar3, wAsg, wUnp2, wVar, wHv, wC, wB, wU, wNil, wCons, wL, wImm, wTup, wLst, wIf, asB, wTB, wAndV, wOrV, wAndT, wOrT, wNotT, wChain, wNoPart, wPart, wSl, wGet, wYes, wN, List.getElem?_cons_zero, List.getElem?_cons_succ, List.set_cons_zero, List.set_cons_succ, List.length_cons, List.length_nil, if_true, if_false, Bool.false_eq_true, ↓reduceIte]
  refine ⟨w, 1, 12, rfl, hw.2.2, hw.2.1, ?_⟩
  rw [decide_eq_true (show (1 : Int) ≤ (w.length : Int) ∧ (w.length : Int) ≤ 12 from ⟨by have := hw.1; omega, by have := hw.2.1; omega⟩)]
  exact h
theorem pair_next {ws : List Str} {r : Str → Str → Prop} (h : ws.Pairwise r) : ∀ p ∈ ws.zip (ws.drop 1), r p.1 p.2 := by
  intro p hp
  obtain ⟨i, hi⟩ := List.mem_iff_getElem?.mp hp
  rw [List.getElem?_zip_eq_some, List.getElem?_drop] at hi
  obtain ⟨h1, h2⟩ := hi
  obtain ⟨l1, e1⟩ := List.getElem?_eq_some_iff.mp h1
  obtain ⟨l2, e2⟩ := List.getElem?_eq_some_iff.mp h2
  rw [← e1, ← e2]
  exact (List.pairwise_iff_getElem.mp h) i (1 + i) l1 l2 (by omega)
theorem l_is_book : ∀ ds R, g_is_book ds R → w_is_book { nx := fun _ => R (.v .non), rt := R } (startR ["thing", "one", "other"] ds) := by
  rintro ds R ⟨z, ws, rfl, ⟨hl, hw, hs⟩, h⟩
  change w_is_book _ [.bor (.tup z (ws.map T)), .no, .no]
  simp only [w_is_book, wSeqS, wNext, wSet, wDrop, wRet, wRetV, wRetN, wIfS, wPar, wPar3, wAsg, wUnp2, wVar, wHv, wC, wB, wU, wNil, wCons, wL, wImm, wTup, wLst, wIf, asB, wTB, wAndV, wOrV, wAndT, wOrT, wNotT, wChain, wNoPart, wPart, wSl, wGet, wYes, wN, List.getElem?_cons_zero, List.getElem?_cons_succ, List.set_cons_zero, List.set_cons_succ, List.length_cons, List.length_nil, if_true, if_false, Bool.false_eq_true, ↓reduceIte]
  refine k_inst _ "tuple" "tuple" rfl inst_tt ?_
  simp only [wSeqS, wNext, wSet, wDrop, wRet, wRetV, wRetN, wIfS, wPar, wPar3, wAsg, wUnp2, wVar, wHv, wC, wB, wU, wNil, wCons, wL, wImm, wTup, wLst, wIf, asB, wTB, wAndV, wOrV, wAndT, wOrT, wNotT, wChain, wNoPart, wPart, wSl, wGet, wYes, wN, List.getElem?_cons_zero, List.getElem?_cons_succ, List.set_cons_zero, List.set_cons_succ, List.length_cons, List.length_nil, if_true, if_false, Bool.false_eq_true, ↓reduceIte, Bool.not_true]
  simp only [kLen, List.length_map, kGt, decide_eq_false (show ¬ (60 : Int) < (ws.length : Int) by omega), wSeqS, wNext, wSet, wDrop, wRet, wRetV, wRetN, wIfS, wPar, wPar3, wAsg, wUnp2, wVar, wHv, wC, wB, wU, wNil, wCons, wL, wImm, wTup, wLst, wIf, asB, wTB, wAndV, wOrV, wAndT, wOrT, wNotT, wChain, wNoPart, wPart, wSl, wGet, wYes, wN, List.getElem?_cons_zero, List.getElem?_cons_succ, List.set_cons_zero, List.set_cons_succ, List.length_cons, List.length_nil, if_true, if_false, Bool.false_eq_true, ↓reduceIte]
  refine ⟨imm_T ws, ?_⟩
  refine lcW_mapI T (fun _ => B true) (fun w hm K hK => ?_) (by omega) ?_
  · exact ⟨(by decide : (1 : Nat) < 3), w, rfl, hw w hm, hK⟩
  refine all_mapB (fun _ => true) ws ?_
  rw [show (ws.all fun _ => true) = true by simp]
  simp only [wSeqS, wNext, wSet, wDrop, wRet, wRetV, wRetN, wIfS, wPar, wPar3, wAsg, wUnp2, wVar, wHv, wC, wB, wU, wNil, wCons, wL, wImm, wTup, wLst, wIf, asB, wTB, wAndV, wOrV, wAndT, wOrT, wNotT, wChain, wNoPart, wPart, wSl, wGet, wYes, wN, List.getElem?_cons_zero, List.getElem?_cons_succ, List.set_cons_zero, List.set_cons_succ, List.length_cons, List.length_nil, if_true, if_false, Bool.false_eq_true, ↓reduceIte, Bool.not_true]
  simp only [wSeqS, wNext, wSet, wDrop, wRet, wRetV, wRetN, wIfS, wPar, wPar3, wAsg, wUnp2, wVar, wHv, wC, wB, wU, wNil, wCons, wL, wImm, wTup, wLst, wIf, asB, wTB, wAndV, wOrV, wAndT, wOrT, wNotT, wChain, wNoPart, wPart, wSl, wGet, wYes, wN, List.getElem?_cons_zero, List.getElem?_cons_succ, List.set_cons_zero, List.set_cons_succ, List.length_cons, List.length_nil, if_true, if_false, Bool.false_eq_true, ↓reduceIte, wLc, wLcK, wDc, wDcK, wZip, wSeq, wEnum, wRng1, wRng2, borAll, wipeR, Sl.toBor, List.map_cons, List.map_nil, seqOf]
  refine sl_tail (imm_T ws) fun z' => ?_
  simp only []
  refine ⟨imm_T ws, imm_drop 1 (imm_T ws), ?_⟩
  rw [zip_next]
  refine lcW_mapI _ (fun _ => B true) (fun p hm K hK => ?_) ?_ ?_
  · refine ⟨(by decide : (1 : Nat) < 3), (by decide : (2 : Nat) < 3), ?_⟩
    show K (B (strLt p.1 p.2))
    rw [pair_next hs p hm]
    exact hK
  · rw [List.length_zip]; omega
  · refine all_mapB (fun _ => true) _ ?_
    rw [show ((ws.zip (ws.drop 1)).all fun _ => true) = true by simp]
    exact h
theorem l_check_book : ∀ ds R, g_check_book ds R → w_check_book { nx := fun _ => R (.v .non), rt := R } (startR ["thing"] ds) := by
  rintro ds R ⟨z, ws, rfl, hb, h⟩
  change w_check_book _ [.bor (.tup z (ws.map T))]
  simp only [w_check_book, wSeqS, wNext, wSet, wDrop, wRet, wRetV, wRetN, wIfS, wPar, wPar3, wAsg, wUnp2, wVar, wHv, wC, wB, wU, wNil, wCons, wL, wImm, wTup, wLst, wIf, asB, wTB, wAndV, wOrV, wAndT, wOrT, wNotT, wChain, wNoPart, wPart, wSl, wGet, wYes, wN, List.getElem?_cons_zero, List.getElem?_cons_succ, List.set_cons_zero, List.set_cons_succ, List.length_cons, List.length_nil, if_true, if_false, Bool.false_eq_true, ↓reduceIte]
  refine ⟨z, ws, rfl, hb, ?_⟩
  simp only [wSeqS, wNext, wSet, wDrop, wRet, wRetV, wRetN, wIfS, wPar, wPar3, wAsg, wUnp2, wVar, wHv, wC, wB, wU, wNil, wCons, wL, wImm, wTup, wLst, wIf, asB, wTB, wAndV, wOrV, wAndT, wOrT, wNotT, wChain, wNoPart, wPart, wSl, wGet, wYes, wN, List.getElem?_cons_zero, List.getElem?_cons_succ, List.set_cons_zero, List.set_cons_succ, List.length_cons, List.length_nil, if_true, if_false, Bool.false_eq_true, ↓reduceIte, Bool.not_true]
  exact h
end K20

namespace K20
open PySem PySem.Spec PyProof.Rows L2 PL
theorem l_are_within : ∀ ds R, g_are_within ds R → w_are_within { nx := fun _ => R (.v .non), rt := R } (startR ["thing", "least", "most", "one"] ds) := by
  rintro ds R (⟨z, ns, a, b, rfl, hl, h⟩ | ⟨l, a, b, rfl, h⟩)
  · change w_are_within _ [.bor (.tup z (ns.map N)), .bor (N a), .bor (N b), .no]
    simp only [w_are_within, wSeqS, wNext, wSet, wDrop, wRet, wRetV, wRetN, wIfS, wPar, wPar3, wAsg, wUnp2, wVar, wHv, wC, wB, wU, wNil, wCons, wL, wImm, wTup, wLst, wIf, asB, wTB, wAndV, wOrV, wAndT, wOrT, wNotT, wChain, wNoPart, wPart, wSl, wGet, wYes, wN, List.getElem?_cons_zero, List.getElem?_cons_succ, List.set_cons_zero, List.set_cons_succ, List.length_cons, List.length_nil, if_true, if_false, Bool.false_eq_true, ↓reduceIte]
    refine k_inst _ "tuple" "tuple" rfl inst_tt ?_
    simp only [wSeqS, wNext, wSet, wDrop, wRet, wRetV, wRetN, wIfS, wPar, wPar3, wAsg, wUnp2, wVar, wHv, wC, wB, wU, wNil, wCons, wL, wImm, wTup, wLst, wIf, asB, wTB, wAndV, wOrV, wAndT, wOrT, wNotT, wChain, wNoPart, wPart, wSl, wGet, wYes, wN, List.getElem?_cons_zero, List.getElem?_cons_succ, List.set_cons_zero, List.set_cons_succ, List.length_cons, List.length_nil, if_true, if_false, Bool.false_eq_true, ↓reduceIte, wLc, wLcK, wDc, wDcK, wZip, wSeq, wEnum, wRng1, wRng2, borAll, wipeR, Sl.toBor, List.map_cons, List.map_nil, seqOf]
    refine ⟨imm_N ns, ?_⟩
    refine lcW_mapI N (fun i => B (decide (a ≤ i ∧ i ≤ b))) (fun i hm K hK => ?_) (by omega) ?_
    · exact ⟨(by decide : (3 : Nat) < 4), i, a, b, rfl, hK⟩
    · exact all_mapB (fun i => decide (a ≤ i ∧ i ≤ b)) ns h
  · change w_are_within _ [.bor (.lst l), .bor (N a), .bor (N b), .no]
    simp only [w_are_within, wSeqS, wNext, wSet, wDrop, wRet, wRetV, wRetN, wIfS, wPar, wPar3, wAsg, wUnp2, wVar, wHv, wC, wB, wU, wNil, wCons, wL, wImm, wTup, wLst, wIf, asB, wTB, wAndV, wOrV, wAndT, wOrT, wNotT, wChain, wNoPart, wPart, wSl, wGet, wYes, wN, List.getElem?_cons_zero, List.getElem?_cons_succ, List.set_cons_zero, List.set_cons_succ, List.length_cons, List.length_nil, if_true, if_false, Bool.false_eq_true, ↓reduceIte]
    refine k_inst _ "list" "tuple" rfl inst_lt ?_
    exact h
theorem rngD0 (n : Nat) : rngD 0 n = ((List.range n).map fun (i : Nat) => (i : Int)).map N := by
  unfold rngD
  rw [List.map_map]
  refine List.map_congr_left fun i _ => ?_
  show D.v (.int (0 + (i : Int))) = D.v (.int i)
  rw [Int.zero_add]
theorem rgOk {n : Nat} (h : n ≤ 1000) : RgOk 0 (n : Int) := RgOk.of_le (Int.le_refl _) (by omega) (by decide) (by omega)
theorem sort_perm (ns : List Int) : (ns.mergeSort fun a b => decide (a ≤ b)).Perm ns := List.mergeSort_perm ..
theorem isOrd_len {ns : List Int} {n : Nat} (h : isOrd ns n = true) : ns.length = n := by
  have e := of_decide_eq_true h
  have := congrArg List.length e
  rw [List.length_mergeSort, List.length_map, List.length_range] at this
  exact this
theorem isOrd_mem {ns : List Int} {n : Nat} (h : isOrd ns n = true) : ∀ i ∈ ns, 0 ≤ i ∧ i < n := by
  intro i hi
  have e := of_decide_eq_true h
  have : i ∈ (List.range n).map fun (i : Nat) => (i : Int) := by rw [← e]; exact (sort_perm ns).mem_iff.mpr hi
  obtain ⟨j, hj, rfl⟩ := List.mem_map.mp this
  rw [List.mem_range] at hj
  omega
theorem l_is_order : ∀ ds R, g_is_order ds R → w_is_order { nx := fun _ => R (.v .non), rt := R } (startR ["thing", "many"] ds) := by
  rintro ds R (⟨z, ns, n, rfl, hl, hn, h⟩ | ⟨l, n, rfl, h⟩)
  · change w_is_order _ [.bor (.tup z (ns.map N)), .bor (Nn n)]
    simp only [w_is_order, wSeqS, wNext, wSet, wDrop, wRet, wRetV, wRetN, wIfS, wPar, wPar3, wAsg, wUnp2, wVar, wHv, wC, wB, wU, wNil, wCons, wL, wImm, wTup, wLst, wIf, asB, wTB, wAndV, wOrV, wAndT, wOrT, wNotT, wChain, wNoPart, wPart, wSl, wGet, wYes, wN, List.getElem?_cons_zero, List.getElem?_cons_succ, List.set_cons_zero, List.set_cons_succ, List.length_cons, List.length_nil, if_true, if_false, Bool.false_eq_true, ↓reduceIte, kSub]
    refine .inl ⟨z, ns, 0, (n : Int) - 1, rfl, hl, ?_⟩
    simp only [wSeqS, wNext, wSet, wDrop, wRet, wRetV, wRetN, wIfS, wPar, wPar3, wAsg, wUnp2, wVar, wHv, wC, wB, wU, wNil, wCons, wL, wImm, wTup, wLst, wIf, asB, wTB, wAndV, wOrV, wAndT, wOrT, wNotT, wChain, wNoPart, wPart, wSl, wGet, wYes, wN, List.getElem?_cons_zero, List.getElem?_cons_succ, List.set_cons_zero, List.set_cons_succ, List.length_cons, List.length_nil, if_true, if_false, Bool.false_eq_true, ↓reduceIte, kLen, List.length_map]
    by_cases h1 : (ns.all fun i => decide (0 ≤ i ∧ i ≤ (n : Int) - 1)) = true
    · rw [h1]
      simp only [wSeqS, wNext, wSet, wDrop, wRet, wRetV, wRetN, wIfS, wPar, wPar3, wAsg, wUnp2, wVar, wHv, wC, wB, wU, wNil, wCons, wL, wImm, wTup, wLst, wIf, asB, wTB, wAndV, wOrV, wAndT, wOrT, wNotT, wChain, wNoPart, wPart, wSl, wGet, wYes, wN, List.getElem?_cons_zero, List.getElem?_cons_succ, List.set_cons_zero, List.set_cons_succ, List.length_cons, List.length_nil, if_true, if_false, Bool.false_eq_true, ↓reduceIte]
      refine k_eq_int ?_
      by_cases h2 : (ns.length : Int) = n
      · simp only [decide_eq_true h2, wSeqS, wNext, wSet, wDrop, wRet, wRetV, wRetN, wIfS, wPar, wPar3, wAsg, wUnp2, wVar, wHv, wC, wB, wU, wNil, wCons, wL, wImm, wTup, wLst, wIf, asB, wTB, wAndV, wOrV, wAndT, wOrT, wNotT, wChain, wNoPart, wPart, wSl, wGet, wYes, wN, List.getElem?_cons_zero, List.getElem?_cons_succ, List.set_cons_zero, List.set_cons_succ, List.length_cons, List.length_nil, if_true, if_false, Bool.false_eq_true, ↓reduceIte, wLRg1]
        refine k_sorted_ints rfl (by omega) ?_
        refine ⟨rgOk (by omega), ?_⟩
        rw [Int.toNat_natCast, rngD0]
        exact k_eq_ints h
      · simp only [decide_eq_false h2, wSeqS, wNext, wSet, wDrop, wRet, wRetV, wRetN, wIfS, wPar, wPar3, wAsg, wUnp2, wVar, wHv, wC, wB, wU, wNil, wCons, wL, wImm, wTup, wLst, wIf, asB, wTB, wAndV, wOrV, wAndT, wOrT, wNotT, wChain, wNoPart, wPart, wSl, wGet, wYes, wN, List.getElem?_cons_zero, List.getElem?_cons_succ, List.set_cons_zero, List.set_cons_succ, List.length_cons, List.length_nil, if_true, if_false, Bool.false_eq_true, ↓reduceIte]
        have e : isOrd ns n = false := by
          cases e : isOrd ns n with
          | false => rfl
          | true => exact absurd (by rw [isOrd_len e]) h2
        rw [e] at h
        exact h
    · rw [Bool.not_eq_true] at h1
      rw [h1]
      simp only [wSeqS, wNext, wSet, wDrop, wRet, wRetV, wRetN, wIfS, wPar, wPar3, wAsg, wUnp2, wVar, wHv, wC, wB, wU, wNil, wCons, wL, wImm, wTup, wLst, wIf, asB, wTB, wAndV, wOrV, wAndT, wOrT, wNotT, wChain, wNoPart, wPart, wSl, wGet, wYes, wN, List.getElem?_cons_zero, List.getElem?_cons_succ, List.set_cons_zero, List.set_cons_succ, List.length_cons, List.length_nil, if_true, if_false, Bool.false_eq_true, ↓reduceIte]
      have e : isOrd ns n = false := by
        cases e : isOrd ns n with
        | false => rfl
        | true =>
          have : (ns.all fun i => decide (0 ≤ i ∧ i ≤ (n : Int) - 1)) = true := List.all_eq_true.mpr fun i hi => by
            have := isOrd_mem e i hi
            exact decide_eq_true (by omega)
          rw [h1] at this; cases this
      rw [e] at h
      exact h
  · change w_is_order _ [.bor (.lst l), .bor (Nn n)]
    simp only [w_is_order, wSeqS, wNext, wSet, wDrop, wRet, wRetV, wRetN, wIfS, wPar, wPar3, wAsg, wUnp2, wVar, wHv, wC, wB, wU, wNil, wCons, wL, wImm, wTup, wLst, wIf, asB, wTB, wAndV, wOrV, wAndT, wOrT, wNotT, wChain, wNoPart, wPart, wSl, wGet, wYes, wN, List.getElem?_cons_zero, List.getElem?_cons_succ, List.set_cons_zero, List.set_cons_succ, List.length_cons, List.length_nil, if_true, if_false, Bool.false_eq_true, ↓reduceIte, kSub]
    refine .inr ⟨l, 0, (n : Int) - 1, rfl, ?_⟩
    exact h
/-! ### words -/
theorem at_first {w : Str} (hw : Wd w) : atI w.cps.toList 0 = some (hdc w) := by
  have h1 := hw.1
  unfold hdc
  cases e : w.cps.toList with
  | nil =>
    have : w.length = w.cps.toList.length := (Array.length_toList).symm
    rw [e] at this; simp at this; omega
  | cons c r => exact atI_nat (j := 0) rfl
theorem at_last' {w : Str} (hw : Wd w) : atI w.cps.toList (-1) = some (tlc w) := by
  have h1 := hw.1
  unfold tlc
  cases e : w.cps.toList.reverse with
  | nil =>
    have : w.length = w.cps.toList.length := (Array.length_toList).symm
    rw [List.reverse_eq_nil_iff] at e
    rw [e] at this; simp at this; omega
  | cons c r =>
    have e2 : w.cps.toList = r.reverse ++ [c] := by
      have := congrArg List.reverse e
      rw [List.reverse_reverse, List.reverse_cons] at this
      exact this
    rw [e2, atI_last]
    simp
theorem k_first {w : Str} {R : D → Prop} (hw : Wd w) (h : R (T (sgn (hdc w)))) : kIx (T w) (N 0) R := by
  unfold kIx kIxO
  simp only [if_pos (Nat.le_trans hw.2.1 (by decide : 12 ≤ sizeLine)), at_first hw, Option.map_some]
  exact h
theorem k_last {w : Str} {R : D → Prop} (hw : Wd w) (h : R (T (sgn (tlc w)))) : kIx (T w) (N (-1)) R := by
  unfold kIx kIxO
  simp only [if_pos (Nat.le_trans hw.2.1 (by decide : 12 ≤ sizeLine)), at_last' hw, Option.map_some]
  exact h
theorem sgn_inj {a b : Nat} : (sgn a == sgn b) = (a == b) := by
  by_cases h : a = b
  · subst h; simp
  · have : sgn a ≠ sgn b := fun z => h (by injection z with z; simpa using z)
    rw [beq_false_of_ne this, beq_false_of_ne h]
theorem word_ne {w : Str} (hw : Wd w) : w.cps.toList ≠ [] := fun e => by
  have h1 := hw.1
  have : w.length = w.cps.toList.length := (Array.length_toList).symm
  rw [e] at this; simp at this; omega
theorem hd_mem {w : Str} (hw : Wd w) : hdc w ∈ w.cps.toList := by
  have := word_ne hw
  unfold hdc
  cases e : w.cps.toList with
  | nil => exact absurd e this
  | cons c r => simp
theorem tl_mem {w : Str} (hw : Wd w) : tlc w ∈ w.cps.toList := by
  have := word_ne hw
  unfold tlc
  rw [List.getLastD_eq_getLast?, List.getLast?_eq_some_getLast this]
  exact List.getLast_mem this
theorem hd_low {w : Str} (hw : Wd w) : 97 ≤ hdc w ∧ hdc w ≤ 122 := hw.2.2 _ (hd_mem hw)
theorem tl_low {w : Str} (hw : Wd w) : 97 ≤ tlc w ∧ tlc w ≤ 122 := hw.2.2 _ (tl_mem hw)
theorem ok_of_low {w : Str} (hw : Low w) : (PyData.str w).canLay0 = true := by
  show w.cps.all (· < 0x110000) = true
  rw [← Array.all_toList]
  exact List.all_eq_true.mpr fun c hc => decide_eq_true (by have := hw c hc; omega)
theorem low_sgn {c : Nat} (h : 97 ≤ c ∧ c ≤ 122) : Low (sgn c) := fun d hd => by
  have e : d = c := by simpa using hd
  rw [e]; exact h
theorem k_eq_sgn {a b : Nat} {R : D → Prop} (ha : 97 ≤ a ∧ a ≤ 122) (hb : 97 ≤ b ∧ b ≤ 122) (h : R (B (a == b))) : kEq (T (sgn a)) (T (sgn b)) R :=
  k_eq_str (ok_of_low (low_sgn ha)) (ok_of_low (low_sgn hb)) (by rw [sgn_inj]; exact h)
theorem l_does_hook : ∀ ds R, g_does_hook ds R → w_does_hook { nx := fun _ => R (.v .non), rt := R } (startR ["one", "other"] ds) := by
  rintro ds R ⟨w, v, rfl, hw, hv, h⟩
  change w_does_hook _ [.bor (T w), .bor (T v)]
  simp only [w_does_hook, wSeqS, wNext, wSet, wDrop, wRet, wRetV, wRetN, wIfS, wPar, wPar3, wAsg, wUnp2, wVar, wHv, wC, wB, wU, wNil, wCons, wL, wImm, wTup, wLst, wIf, asB, wTB, wAndV, wOrV, wAndT, wOrT, wNotT, wChain, wNoPart, wPart, wSl, wGet, wYes, wN, List.getElem?_cons_zero, List.getElem?_cons_succ, List.set_cons_zero, List.set_cons_succ, List.length_cons, List.length_nil, if_true, if_false, Bool.false_eq_true, ↓reduceIte, kNeg]
  refine k_last hw ?_
  refine k_first hv ?_
  exact k_eq_sgn (tl_low hw) (hd_low hv) h
/-! ### a word of the book by its place -/
theorem at_book {ws : List Str} {i : Int} (h : 0 ≤ i ∧ i < ws.length) : atI (ws.map T) i = some (T (at0 ws i)) ∧ at0 ws i ∈ ws := by
  obtain ⟨j, rfl⟩ := Int.eq_ofNat_of_zero_le h.1
  have hj : j < ws.length := by omega
  have e : at0 ws (j : Int) = ws[j] := by
    unfold at0
    rw [Int.toNat_natCast, List.getD_eq_getElem?_getD, List.getElem?_eq_getElem hj]; rfl
  refine ⟨atI_nat (j := j) ?_, by rw [e]; exact List.getElem_mem hj⟩
  rw [List.getElem?_map, List.getElem?_eq_getElem hj, e]; rfl
theorem k_book {z : Bool} {ws : List Str} {i : Int} {R : D → Prop} (h : 0 ≤ i ∧ i < ws.length) (g : R (T (at0 ws i))) : kIx (.tup z (ws.map T)) (N i) R := by
  unfold kIx kIxO
  simp only [(at_book h).1]
  exact g
theorem zip_mem {α : Type} {l : List α} : ∀ p ∈ l.zip (l.drop 1), p.1 ∈ l ∧ p.2 ∈ l := fun p hp => by
  obtain ⟨h1, h2⟩ := List.of_mem_zip (a := p.1) (b := p.2) hp
  exact ⟨h1, List.mem_of_mem_drop h2⟩
theorem l_is_chain : ∀ ds R, g_is_chain ds R → w_is_chain { nx := fun _ => R (.v .non), rt := R } (startR ["book", "thing", "one", "other"] ds) := by
  rintro ds R ⟨z, ws, d, rfl, hb, h⟩
  change w_is_chain _ [.bor (.tup z (ws.map T)), .bor d, .no, .no]
  simp only [w_is_chain, wSeqS, wNext, wSet, wDrop, wRet, wRetV, wRetN, wIfS, wPar, wPar3, wAsg, wUnp2, wVar, wHv, wC, wB, wU, wNil, wCons, wL, wImm, wTup, wLst, wIf, asB, wTB, wAndV, wOrV, wAndT, wOrT, wNotT, wChain, wNoPart, wPart, wSl, wGet, wYes, wN, List.getElem?_cons_zero, List.getElem?_cons_succ, List.set_cons_zero, List.set_cons_succ, List.length_cons, List.length_nil, if_true, if_false, Bool.false_eq_true, ↓reduceIte]
  refine ⟨z, ws, rfl, hb, ?_⟩
  simp only [kLen, List.length_map]
  rcases h with ⟨z2, ns, rfl, hl, h⟩ | ⟨l, rfl, h⟩
  · refine .inl ⟨z2, ns, ws.length, rfl, hl, hb.1, ?_⟩
    unfold isChain at h
    cases e : isOrd ns ws.length with
    | false =>
      rw [e] at h
      exact h
    | true =>
      rw [e, Bool.true_and] at h
      simp only [wSeqS, wNext, wSet, wDrop, wRet, wRetV, wRetN, wIfS, wPar, wPar3, wAsg, wUnp2, wVar, wHv, wC, wB, wU, wNil, wCons, wL, wImm, wTup, wLst, wIf, asB, wTB, wAndV, wOrV, wAndT, wOrT, wNotT, wChain, wNoPart, wPart, wSl, wGet, wYes, wN, List.getElem?_cons_zero, List.getElem?_cons_succ, List.set_cons_zero, List.set_cons_succ, List.length_cons, List.length_nil, if_true, if_false, Bool.false_eq_true, ↓reduceIte, wLc, wLcK, wDc, wDcK, wZip, wSeq, wEnum, wRng1, wRng2, borAll, wipeR, Sl.toBor, List.map_cons, List.map_nil, seqOf, Bool.not_true]
      refine sl_tail (imm_N ns) fun z' => ?_
      simp only []
      refine ⟨imm_N ns, imm_drop 1 (imm_N ns), ?_⟩
      rw [zip_next]
      refine lcW_mapI _ (fun p => B (tlc (at0 ws p.1) == hdc (at0 ws p.2))) (fun p hm K hK => ?_) (by rw [List.length_zip]; omega) ?_
      · obtain ⟨m1, m2⟩ := zip_mem p hm
        have i1 := isOrd_mem e _ m1
        have i2 := isOrd_mem e _ m2
        refine ⟨(by decide : (2 : Nat) < 4), (by decide : (3 : Nat) < 4), ?_⟩
        refine k_book i1 ?_
        refine k_book i2 ?_
        exact ⟨_, _, rfl, hb.2.1 _ (at_book i1).2, hb.2.1 _ (at_book i2).2, hK⟩
      · exact all_mapB (fun p : Int × Int => tlc (at0 ws p.1) == hdc (at0 ws p.2)) _ h
  · refine .inr ⟨l, ws.length, rfl, ?_⟩
    exact h
theorem l__law_is_one : ∀ ds R, g__law_is_one ds R → w__law_is_one { nx := fun _ => R (.v .non), rt := R } (startR ["book", "row", "a", "b"] ds) := by
  rintro ds R ⟨z, ws, d, ns, rfl, hb, hd, hl, h⟩
  change w__law_is_one _ [.bor (.tup z (ws.map T)), .bor d, .no, .no]
  have go : ∀ rest : WE, (isOrd ns ws.length = true → rest [.bor (.tup z (ws.map T)), .bor d, .no, .no] R) → (isOrd ns ws.length = false → R (B false)) →
      wRet (wAndV (wB kEq (wL kSorted (wCons (wVar 1) wNil)) (wLRg1 (wL kLen (wCons (wVar 0) wNil)))) rest) { nx := fun _ => R (.v .non), rt := R } [.bor (.tup z (ws.map T)), .bor d, .no, .no] := by
    intro rest h1 h2
    simp only [wSeqS, wNext, wSet, wDrop, wRet, wRetV, wRetN, wIfS, wPar, wPar3, wAsg, wUnp2, wVar, wHv, wC, wB, wU, wNil, wCons, wL, wImm, wTup, wLst, wIf, asB, wTB, wAndV, wOrV, wAndT, wOrT, wNotT, wChain, wNoPart, wPart, wSl, wGet, wYes, wN, List.getElem?_cons_zero, List.getElem?_cons_succ, List.set_cons_zero, List.set_cons_succ, List.length_cons, List.length_nil, if_true, if_false, Bool.false_eq_true, ↓reduceIte, wLRg1, kLen, List.length_map]
    refine k_sorted_ints (ns := ns) (by rcases hd with rfl | ⟨z, rfl⟩ <;> rfl) (by omega) ?_
    refine ⟨rgOk (by have := hb.1; omega), ?_⟩
    rw [Int.toNat_natCast, rngD0]
    refine k_eq_ints ?_
    show if isOrd ns ws.length = true then rest [.bor (.tup z (ws.map T)), .bor d, .no, .no] R else R (B false)
    cases e : isOrd ns ws.length with
    | true => rw [if_pos rfl]; exact h1 e
    | false => rw [if_neg Bool.false_ne_true]; exact h2 e
  refine go _ (fun e => ?_) (fun e => ?_)
  · unfold isChain at h
    rw [e, Bool.true_and] at h
    have walk : ∀ (z' : Bool) (d' : D), d' = .lst ((ns.map N).drop 1) ∨ d' = .tup z' ((ns.map N).drop 1) → lcW (wNT [2, 3]) wYes (wB kEq (wB kIx (wB kIx (wVar 0) (wVar 2)) (wU kNeg (wC (.int 1)))) (wB kIx (wB kIx (wVar 0) (wVar 3)) (wC (.int 0))))
        [.bor (.tup z (ws.map T)), .bor d, .no, .no] ((ns.zip (ns.drop 1)).map fun p => .tup false [N p.1, N p.2]) [] fun x => kAll [x] R := by
      intro z' d' hd'
      refine lcW_mapI _ (fun p => B (tlc (at0 ws p.1) == hdc (at0 ws p.2))) (fun p hm K hK => ?_) (by rw [List.length_zip]; omega) ?_
      · obtain ⟨m1, m2⟩ := zip_mem p hm
        have i1 := isOrd_mem e _ m1
        have i2 := isOrd_mem e _ m2
        have w1 := hb.2.1 _ (at_book i1).2
        have w2 := hb.2.1 _ (at_book i2).2
        refine ⟨(by decide : (2 : Nat) < 4), (by decide : (3 : Nat) < 4), ?_⟩
        refine k_book i1 ?_
        refine k_last w1 ?_
        refine k_book i2 ?_
        refine k_first w2 ?_
        exact k_eq_sgn (tl_low w1) (hd_low w2) hK
      · exact all_mapB (fun p : Int × Int => tlc (at0 ws p.1) == hdc (at0 ws p.2)) _ h
    rcases hd with rfl | ⟨z2, rfl⟩
    · simp only [wSeqS, wNext, wSet, wDrop, wRet, wRetV, wRetN, wIfS, wPar, wPar3, wAsg, wUnp2, wVar, wHv, wC, wB, wU, wNil, wCons, wL, wImm, wTup, wLst, wIf, asB, wTB, wAndV, wOrV, wAndT, wOrT, wNotT, wChain, wNoPart, wPart, wSl, wGet, wYes, wN, List.getElem?_cons_zero, List.getElem?_cons_succ, List.set_cons_zero, List.set_cons_succ, List.length_cons, List.length_nil, if_true, if_false, Bool.false_eq_true, ↓reduceIte, wLc, wLcK, wDc, wDcK, wZip, wSeq, wEnum, wRng1, wRng2, borAll, wipeR, Sl.toBor, List.map_cons, List.map_nil, seqOf]
      refine sl_tailL (imm_N ns) ?_
      simp only []
      refine ⟨imm_N ns, imm_drop 1 (imm_N ns), ?_⟩
      rw [zip_next]
      exact walk false _ (.inl rfl)
    · simp only [wSeqS, wNext, wSet, wDrop, wRet, wRetV, wRetN, wIfS, wPar, wPar3, wAsg, wUnp2, wVar, wHv, wC, wB, wU, wNil, wCons, wL, wImm, wTup, wLst, wIf, asB, wTB, wAndV, wOrV, wAndT, wOrT, wNotT, wChain, wNoPart, wPart, wSl, wGet, wYes, wN, List.getElem?_cons_zero, List.getElem?_cons_succ, List.set_cons_zero, List.set_cons_succ, List.length_cons, List.length_nil, if_true, if_false, Bool.false_eq_true, ↓reduceIte, wLc, wLcK, wDc, wDcK, wZip, wSeq, wEnum, wRng1, wRng2, borAll, wipeR, Sl.toBor, List.map_cons, List.map_nil, seqOf]
      refine sl_tail (imm_N ns) fun z' => ?_
      simp only []
      refine ⟨imm_N ns, imm_drop 1 (imm_N ns), ?_⟩
      rw [zip_next]
      exact walk z' _ (.inr rfl)
  · unfold isChain at h
    rw [e] at h
    exact h
end K20

namespace K20
open PySem PySem.Spec PyProof.Rows L2 PL
/-! ### surplus_of -/
abbrev kk (c : Nat) : Key := .inr (sgn c)
theorem kk_inj : ∀ a b, kk a = kk b → a = b := fun a b h => by
  injection h with h
  injection h with h
  simpa using h
abbrev tabD (L : List Nat) (f : Nat → Int) : D := .dic (L.map kk) (L.map fun c => N (f c))
theorem tab_get {L : List Nat} {f : Nat → Int} (hf : ∀ c, c ∉ L → f c = 0) {c : Nat} {R : D → Prop} (h : R (N (f c))) : kGet (tabD L f) (T (sgn c)) (N 0) R := by
  show R ((lookD (L.map kk) (L.map fun c => N (f c)) (kk c)).getD (N 0))
  rw [lookD_map kk kk_inj (fun c => N (f c)) c L]
  by_cases m : c ∈ L
  · rw [if_pos m]; exact h
  · rw [if_neg m]
    have := hf c m
    rw [this] at h
    exact h
theorem tab_store {L : List Nat} {f : Nat → Int} (nd : L.Nodup) (hl : L.length ≤ 500) {c : Nat} {n : Int} {R : D → Prop}
    (h : ∀ L' f', L'.Nodup → L'.length ≤ L.length + 1 → (∀ x, f' x = if x = c then n else f x) → (∀ x, x ∉ L' → x ∉ L ∧ x ≠ c) → R (tabD L' f')) : storeD (tabD L f) (T (sgn c)) (N n) R := by
  show (L.map kk).length < sizeLine ∧ R (.dic (putD (L.map kk) (L.map fun c => N (f c)) (kk c) (N n)).1 (putD (L.map kk) (L.map fun c => N (f c)) (kk c) (N n)).2)
  refine ⟨by rw [List.length_map]; exact small1000 (by omega), ?_⟩
  rw [putD_map kk kk_inj (fun c => N (f c)) c (N n) L nd]
  have e : (fun x => if x = c then N n else N (f x)) = fun x => N (if x = c then n else f x) := by
    funext x
    by_cases z : x = c
    · rw [if_pos z, if_pos z]
    · rw [if_neg z, if_neg z]
  rw [e]
  by_cases m : c ∈ L
  · rw [if_pos m]
    exact h L _ nd (by omega) (fun _ => rfl) fun x hx => ⟨hx, fun z => hx (z ▸ m)⟩
  · rw [if_neg m]
    refine h (L ++ [c]) _ (List.nodup_append.mpr ⟨nd, by simp, fun x hx y hy z => m (by rw [List.mem_singleton] at hy; rw [← hy, ← z]; exact hx)⟩) (by simp) (fun _ => rfl) fun x hx => ⟨fun z => hx (by simp [z]), fun z => hx (by simp [z])⟩
theorem words_seq {ws : List Str} {d : D} (h : wordsD ws d) : seqOf d = some (ws.map T) := by
  rcases h with rfl | ⟨z, rfl⟩ <;> rfl
theorem words_len {ws : List Str} {d : D} (h : wordsD ws d) {R : D → Prop} (g : R (Nn ws.length)) : kLen [d] R := by
  rcases h with rfl | ⟨z, rfl⟩
  · show R (Nn (ws.map T).length); rw [List.length_map]; exact g
  · show R (Nn (ws.map T).length); rw [List.length_map]; exact g
theorem l_surplus_of : ∀ ds R, g_surplus_of ds R → w_surplus_of { nx := fun _ => R (.v .non), rt := R } (startR ["words", "found", "word", "letter"] ds) := by
  rintro ds R ⟨d, ws, rfl, hd, hl, hw, h⟩
  change w_surplus_of _ [.bor d, .no, .no, .no]
  simp only [w_surplus_of, wSeqS, wNext, wSet, wDrop, wRet, wRetV, wRetN, wIfS, wPar, wPar3, wAsg, wUnp2, wVar, wHv, wC, wB, wU, wNil, wCons, wL, wImm, wTup, wLst, wIf, asB, wTB, wAndV, wOrV, wAndT, wOrT, wNotT, wChain, wNoPart, wPart, wSl, wGet, wYes, wN, List.getElem?_cons_zero, List.getElem?_cons_succ, List.set_cons_zero, List.set_cons_succ, List.length_cons, List.length_nil, if_true, if_false, Bool.false_eq_true, ↓reduceIte, wDic0, wFor, wSeq, words_seq hd]
  refine ⟨(by decide : (1 : Nat) < 4), imm_T ws, ?_⟩
  refine forW_by (f := _) T ws (fun i ρ => ∃ x2 L f, ρ = [.bor d, .own (tabD L f), x2, .no] ∧ lcks [.bor d, .own (tabD L f), x2, .no] = lcks [.bor d, .own (tabD [] (fun _ => 0)), .no, .no] ∧ L.Nodup ∧ L.length ≤ 2 * i ∧ (∀ c, f c = bal ((ws.take i).map edW) c) ∧ ∀ c, c ∉ L → f c = 0) 0 (fun i w ρ ei p nx hn => ?_) (fun ρ p => ?_) _
    ⟨.no, [], fun _ => 0, rfl, rfl, List.nodup_nil, Nat.le_refl _, fun c => by rw [List.take_zero]; rfl, fun _ _ => rfl⟩
  · obtain ⟨x2, L, f, rfl, hlk, nd, hL, hf, h0⟩ := p
    have hi : i < ws.length := (List.getElem?_eq_some_iff.mp ei).1
    have ww := hw w (List.mem_of_getElem? ei)
    simp only [wSeqS, wNext, wSet, wDrop, wRet, wRetV, wRetN, wIfS, wPar, wPar3, wAsg, wUnp2, wVar, wHv, wC, wB, wU, wNil, wCons, wL, wImm, wTup, wLst, wIf, asB, wTB, wAndV, wOrV, wAndT, wOrT, wNotT, wChain, wNoPart, wPart, wSl, wGet, wYes, wN, List.getElem?_cons_zero, List.getElem?_cons_succ, List.set_cons_zero, List.set_cons_succ, List.length_cons, List.length_nil, if_true, if_false, Bool.false_eq_true, ↓reduceIte, wStore, ownD]
    refine ⟨(by decide : (2 : Nat) < 4), ?_⟩
    refine ⟨rfl, k_first ww (tab_get h0 ?_)⟩
    simp only [kAdd, ownD, wSeqS, wNext, wSet, wDrop, wRet, wRetV, wRetN, wIfS, wPar, wPar3, wAsg, wUnp2, wVar, wHv, wC, wB, wU, wNil, wCons, wL, wImm, wTup, wLst, wIf, asB, wTB, wAndV, wOrV, wAndT, wOrT, wNotT, wChain, wNoPart, wPart, wSl, wGet, wYes, wN, List.getElem?_cons_zero, List.getElem?_cons_succ, List.set_cons_zero, List.set_cons_succ, List.length_cons, List.length_nil, if_true, if_false, Bool.false_eq_true, ↓reduceIte]
    refine k_first ww (tab_store nd (by omega) fun L1 f1 n1 l1 e1 m1 => ?_)
    have h1 : ∀ c, c ∉ L1 → f1 c = 0 := fun c hc => by rw [e1, if_neg (m1 c hc).2]; exact h0 c (m1 c hc).1
    refine ⟨rfl, k_last ww (tab_get h1 ?_)⟩
    simp only [kNeg, kSub, ownD, wSeqS, wNext, wSet, wDrop, wRet, wRetV, wRetN, wIfS, wPar, wPar3, wAsg, wUnp2, wVar, wHv, wC, wB, wU, wNil, wCons, wL, wImm, wTup, wLst, wIf, asB, wTB, wAndV, wOrV, wAndT, wOrT, wNotT, wChain, wNoPart, wPart, wSl, wGet, wYes, wN, List.getElem?_cons_zero, List.getElem?_cons_succ, List.set_cons_zero, List.set_cons_succ, List.length_cons, List.length_nil, if_true, if_false, Bool.false_eq_true, ↓reduceIte]
    refine k_last ww (tab_store n1 (by omega) fun L2 f2 n2 l2 e2 m2 => ?_)
    refine hn _ ⟨.own (T w), L2, f2, rfl, rfl, n2, by omega, fun c => ?_, fun c hc => by rw [e2, if_neg (m2 c hc).2]; exact h1 c (m2 c hc).1⟩
    have et : (ws.take (0 + i + 1)).map edW = (ws.take (0 + i)).map edW ++ [edW w] := by
      rw [Nat.zero_add, List.take_succ, ei]
      simp
    rw [et, bal_app, ← hf c]
    have k1 : f1 c = f c + dl (hdc w) c := by
      rw [e1]
      by_cases z : c = hdc w
      · rw [if_pos z, ← z, dl_self]
      · rw [if_neg z, dl_ne (Ne.symm z)]; omega
    have k2 : f2 c = f1 c - dl (tlc w) c := by
      rw [e2]
      by_cases z : c = tlc w
      · rw [if_pos z, ← z, dl_self]
      · rw [if_neg z, dl_ne (Ne.symm z)]; omega
    show f2 c = f c + (dl (hdc w) c - dl (tlc w) c + 0)
    omega
  · obtain ⟨x2, L, f, rfl, hlk, nd, hL, hf, h0⟩ := p
    have hb : f = bal (ws.map edW) := by
      funext c
      rw [hf c, Nat.zero_add, List.take_length]
    subst hb
    refine ⟨hlk, ?_⟩
    simp only [wSeqS, wNext, wSet, wDrop, wRet, wRetV, wRetN, wIfS, wPar, wPar3, wAsg, wUnp2, wVar, wHv, wC, wB, wU, wNil, wCons, wL, wImm, wTup, wLst, wIf, asB, wTB, wAndV, wOrV, wAndT, wOrT, wNotT, wChain, wNoPart, wPart, wSl, wGet, wYes, wN, List.getElem?_cons_zero, List.getElem?_cons_succ, List.set_cons_zero, List.set_cons_succ, List.length_cons, List.length_nil, if_true, if_false, Bool.false_eq_true, ↓reduceIte, wDcK, wKeys, borAll, wipeR, Sl.toBor, List.map_cons, List.map_nil, List.map_map]
    refine dcW_of (keyD ∘ kk) kk kk_inj id (fun c => N (bal (ws.map edW) c)) (fun c => decide (bal (ws.map edW) c ≠ 0)) L [] List.nodup_nil (fun c hc K hK => ?_) (by simp; omega) (fun L' n' h' => ?_)
    · refine ⟨(by decide : (3 : Nat) < 4), ?_⟩
      have look : ∀ R : D → Prop, R (N (bal (ws.map edW) c)) → kIx (tabD L (bal (ws.map edW))) (T (sgn c)) R := fun R hR => by
        unfold kIx
        have e : kIxO (tabD L (bal (ws.map edW))) (T (sgn c)) = some (N (bal (ws.map edW) c)) := by
          show lookD (L.map kk) (L.map fun c => N (bal (ws.map edW) c)) (kk c) = _
          rw [lookD_map kk kk_inj (fun c => N (bal (ws.map edW) c)) c L, if_pos hc]
        simp only [e]
        exact hR
      simp only [wSeqS, wNext, wSet, wDrop, wRet, wRetV, wRetN, wIfS, wPar, wPar3, wAsg, wUnp2, wVar, wHv, wC, wB, wU, wNil, wCons, wL, wImm, wTup, wLst, wIf, asB, wTB, wAndV, wOrV, wAndT, wOrT, wNotT, wChain, wNoPart, wPart, wSl, wGet, wYes, wN, List.getElem?_cons_zero, List.getElem?_cons_succ, List.set_cons_zero, List.set_cons_succ, List.length_cons, List.length_nil, if_true, if_false, Bool.false_eq_true, ↓reduceIte]
      refine look _ ?_
      refine k_ne_int (a := bal (ws.map edW) c) (b := 0) ?_
      have hK := hK (T (sgn c)) rfl
      by_cases z : bal (ws.map edW) c = 0
      · rw [decide_eq_false (by simpa using z), if_neg Bool.false_ne_true] at hK
        rw [decide_eq_true z]
        exact hK
      · rw [decide_eq_true z, if_pos rfl] at hK
        rw [decide_eq_false z]
        refine look _ ?_
        exact ⟨rfl, hK⟩
    · refine h L' ⟨n', fun c => ?_⟩
      rw [h' c]
      constructor
      · rintro (q | ⟨a, ha, y, rfl⟩)
        · cases q
        · exact of_decide_eq_true y
      · intro z
        refine .inr ⟨c, Classical.byContradiction fun m => z (h0 c m), decide_eq_true z, rfl⟩
end K20

namespace K20
open PySem PySem.Spec PyProof.Rows L2 PL
/-! ### together_with -/
abbrev knD (L : List Nat) : D := .dic (L.map kk) (L.map fun _ => B true)
theorem kn_store {L : List Nat} (nd : L.Nodup) (hl : L.length ≤ 500) {c : Nat} {R : D → Prop}
    (h : ∀ L', L'.Nodup → (∀ x, x ∈ L' ↔ x ∈ L ∨ x = c) → R (knD L')) : storeD (knD L) (T (sgn c)) (B true) R := by
  show (L.map kk).length < sizeLine ∧ R (.dic (putD (L.map kk) (L.map fun _ => B true) (kk c) (B true)).1 (putD (L.map kk) (L.map fun _ => B true) (kk c) (B true)).2)
  refine ⟨by rw [List.length_map]; exact small1000 (by omega), ?_⟩
  rw [putD_map kk kk_inj (fun _ => B true) c (B true) L nd]
  have e : (fun x : Nat => if x = c then B true else B true) = fun _ => B true := by funext x; split <;> rfl
  rw [e]
  by_cases m : c ∈ L
  · rw [if_pos m]
    exact h L nd fun x => ⟨.inl, fun z => z.elim id fun z => z ▸ m⟩
  · rw [if_neg m]
    exact h (L ++ [c]) (List.nodup_append.mpr ⟨nd, by simp, fun x hx y hy z => m (by rw [List.mem_singleton] at hy; rw [← hy, ← z]; exact hx)⟩) fun x => by simp
theorem kn_in {L : List Nat} {c : Nat} {R : D → Prop} (h : R (B (decide (c ∈ L)))) : kIn (T (sgn c)) (knD L) R := by
  unfold kIn
  have e : kInB (T (sgn c)) (knD L) = some (decide (c ∈ L)) := by
    show some (memK (L.map kk) (kk c)) = _
    rw [memK_map kk kk_inj c L]
  simp only [e]
  exact h
def Known (ws : List Str) (c : Nat) (L : List Nat) : Prop := L.Nodup ∧ c ∈ L ∧ (∀ x ∈ L, Reach (ws.map edW) c x) ∧ ∀ x ∈ L, x = c ∨ (97 ≤ x ∧ x ≤ 122)
theorem Known.len {ws : List Str} {c : Nat} {L : List Nat} (k : Known ws c L) : L.length ≤ 27 := by
  have := nodup_len (L := L) (M := c :: (List.range 26).map (97 + ·)) k.1 fun x hx => by
    rcases k.2.2.2 x hx with rfl | ⟨h1, h2⟩
    · simp
    · exact List.mem_cons_of_mem _ (List.mem_map.mpr ⟨x - 97, List.mem_range.mpr (by omega), by omega⟩)
  simpa using this
abbrev oneIn (L : List Nat) (w : Str) : Bool := decide (hdc w ∈ L) != decide (tlc w ∈ L)
theorem filter_fm {α : Type} (p : α → Bool) (g : α → D) (l : List α) : l.filterMap (fun a => if p a then some (g a) else none) = (l.filter p).map g := by
  induction l with
  | nil => rfl
  | cons a l ih =>
    by_cases h : p a = true
    · rw [List.filterMap_cons, List.filter_cons, if_pos h, if_pos h, List.map_cons, ih]
    · rw [List.filterMap_cons, List.filter_cons, if_neg h, if_neg h, ih]
theorem enum_words (ws : List Str) : enumD (ws.map T) = (List.range ws.length).map fun i => .tup false [Nn i, T (ws.getD i ⟨#[]⟩)] := by
  unfold enumD
  rw [List.length_map]
  apply List.ext_getElem?
  intro i
  rw [List.getElem?_zipWith, List.getElem?_map, List.getElem?_map]
  by_cases h : i < ws.length
  · rw [List.getElem?_range h, List.getElem?_eq_getElem h]
    simp [List.getD_eq_getElem?_getD, List.getElem?_eq_getElem h]
  · rw [List.getElem?_eq_none (by simpa using h)]
    rfl
theorem l_together_with : ∀ ds R, g_together_with ds R → w_together_with { nx := fun _ => R (.v .non), rt := R } (startR ["words", "letters", "letter", "known", "is_going", "word", "more", "at"] ds) := by
  rintro ds R ⟨d, ws, c, rfl, hd, hl, hw, h⟩
  change w_together_with _ [.bor d, .bor (T (sgn c)), .no, .no, .no, .no, .no, .no]
  simp only [w_together_with, wSeqS, wNext, wSet, wDrop, wRet, wRetV, wRetN, wIfS, wPar, wPar3, wAsg, wUnp2, wVar, wHv, wC, wB, wU, wNil, wCons, wL, wImm, wTup, wLst, wIf, asB, wTB, wAndV, wOrV, wAndT, wOrT, wNotT, wChain, wNoPart, wPart, wSl, wGet, wYes, wN, List.getElem?_cons_zero, List.getElem?_cons_succ, List.set_cons_zero, List.set_cons_succ, List.length_cons, List.length_nil, if_true, if_false, Bool.false_eq_true, ↓reduceIte, wLc, wLcK, wDc, wDcK, wZip, wSeq, wEnum, wRng1, wRng2, borAll, wipeR, Sl.toBor, List.map_cons, List.map_nil, seqOf]
  refine ⟨rfl, ?_⟩
  -- known = {letter: True for letter in letters}
  refine dcW_of (T ∘ sgn) kk kk_inj id (fun _ => B true) (fun _ => true) [c] [] List.nodup_nil (fun a ha K hK => ?_) (by simp) (fun L0 n0 h0 => ?_)
  · exact ⟨(by decide : (2 : Nat) < 8), hK (T (sgn a)) rfl⟩
  have k0 : Known ws c L0 := ⟨n0, (h0 c).mpr (.inr ⟨c, by simp, rfl, rfl⟩), fun x hx => by
    rcases (h0 x).mp hx with q | ⟨a, ha, _, e⟩
    · cases q
    · have : a = c := by simpa using ha
      rw [← show a = x from e, this]; exact .base, fun x hx => by
    rcases (h0 x).mp hx with q | ⟨a, ha, _, e⟩
    · cases q
    · have : a = c := by simpa using ha
      exact .inl (by rw [← this]; exact (show a = x from e).symm)⟩
  refine ⟨by decide, (by decide : (3 : Nat) < 8), (by decide : (4 : Nat) < 8), ?_⟩
  -- while is_going
  refine ⟨fun m ρ => ∃ o2 L g o5 o6 o7, ρ = [.bor d, .bor (T (sgn c)), fr o2, .own (knD L), .own (B g), fr o5, fr o6, fr o7] ∧ Known ws c L ∧ (g = false → ∀ w ∈ ws, hdc w ∈ L ↔ tlc w ∈ L) ∧ m = (if g then 1 else 0) + 2 * (27 - L.length),
    ⟨_, none, L0, true, none, none, none, rfl, k0, (fun z => by cases z), rfl⟩, ?_⟩
  rintro m ρ ⟨o2, L, g, o5, o6, o7, rfl, kn, cl, rfl⟩
  simp only [wSeqS, wNext, wSet, wDrop, wRet, wRetV, wRetN, wIfS, wPar, wPar3, wAsg, wUnp2, wVar, wHv, wC, wB, wU, wNil, wCons, wL, wImm, wTup, wLst, wIf, asB, wTB, wAndV, wOrV, wAndT, wOrT, wNotT, wChain, wNoPart, wPart, wSl, wGet, wYes, wN, List.getElem?_cons_zero, List.getElem?_cons_succ, List.set_cons_zero, List.set_cons_succ, List.length_cons, List.length_nil, if_true, if_false, Bool.false_eq_true, ↓reduceIte, wLock, ownD]
  cases g with
  | false =>
    have cl := cl rfl
    have hR : ∀ x, x ∈ L ↔ Reach (ws.map edW) c x := by
      intro x
      refine ⟨kn.2.2.1 x, fun r => ?_⟩
      have both : ∀ e ∈ ws.map edW, e.1 ∈ L ↔ e.2 ∈ L := by
        intro e he
        obtain ⟨w, hm, rfl⟩ := List.mem_map.mp he
        exact cl w hm
      induction r with
      | base => exact kn.2.1
      | fwd m _ ih => exact (both _ m).mp ih
      | bwd m _ ih => exact (both _ m).mpr ih
    simp only [wSeqS, wNext, wSet, wDrop, wRet, wRetV, wRetN, wIfS, wPar, wPar3, wAsg, wUnp2, wVar, wHv, wC, wB, wU, wNil, wCons, wL, wImm, wTup, wLst, wIf, asB, wTB, wAndV, wOrV, wAndT, wOrT, wNotT, wChain, wNoPart, wPart, wSl, wGet, wYes, wN, List.getElem?_cons_zero, List.getElem?_cons_succ, List.set_cons_zero, List.set_cons_succ, List.length_cons, List.length_nil, if_true, if_false, Bool.false_eq_true, ↓reduceIte, wLc, wLcK, wDc, wDcK, wZip, wSeq, wEnum, wRng1, wRng2, borAll, wipeR, Sl.toBor, List.map_cons, List.map_nil, words_seq hd]
    refine ⟨imm_T ws, ?_⟩
    rw [enum_words]
    refine lcW_of _ (fun i => if (decide (hdc (ws.getD i ⟨#[]⟩) ∈ L)) = true then some (Nn i) else none) (List.range ws.length) [] (fun i hi K hK => ?_) (by simp; omega) ?_
    · rw [List.mem_range] at hi
      have ww : Wd (ws.getD i ⟨#[]⟩) := hw _ (by rw [List.getD_eq_getElem?_getD, List.getElem?_eq_getElem hi]; exact List.getElem_mem hi)
      refine ⟨(by decide : (7 : Nat) < 8), (by decide : (5 : Nat) < 8), ?_⟩
      simp only [wSeqS, wNext, wSet, wDrop, wRet, wRetV, wRetN, wIfS, wPar, wPar3, wAsg, wUnp2, wVar, wHv, wC, wB, wU, wNil, wCons, wL, wImm, wTup, wLst, wIf, asB, wTB, wAndV, wOrV, wAndT, wOrT, wNotT, wChain, wNoPart, wPart, wSl, wGet, wYes, wN, List.getElem?_cons_zero, List.getElem?_cons_succ, List.set_cons_zero, List.set_cons_succ, List.length_cons, List.length_nil, if_true, if_false, Bool.false_eq_true, ↓reduceIte]
      refine k_first ww (kn_in ?_)
      by_cases z : hdc (ws.getD i ⟨#[]⟩) ∈ L
      · rw [decide_eq_true z, if_pos rfl] at hK
        rw [decide_eq_true z]
        exact ⟨rfl, hK⟩
      · rw [decide_eq_false z, if_neg Bool.false_ne_true] at hK
        rw [decide_eq_false z]
        exact hK
    · rw [filter_fm]
      have e : (List.range ws.length).filter (fun i => decide (hdc (ws.getD i ⟨#[]⟩) ∈ L)) = hangs ws c := by
        unfold hangs
        refine List.filter_congr fun i _ => ?_
        exact decide_eq_decide.mpr (hR _)
      rw [List.nil_append, e]
      exact h
  | true =>
    simp only [wSeqS, wNext, wSet, wDrop, wRet, wRetV, wRetN, wIfS, wPar, wPar3, wAsg, wUnp2, wVar, wHv, wC, wB, wU, wNil, wCons, wL, wImm, wTup, wLst, wIf, asB, wTB, wAndV, wOrV, wAndT, wOrT, wNotT, wChain, wNoPart, wPart, wSl, wGet, wYes, wN, List.getElem?_cons_zero, List.getElem?_cons_succ, List.set_cons_zero, List.set_cons_succ, List.length_cons, List.length_nil, if_true, if_false, Bool.false_eq_true, ↓reduceIte, wLc, wLcK, wDc, wDcK, wZip, wSeq, wEnum, wRng1, wRng2, borAll, wipeR, Sl.toBor, List.map_cons, List.map_nil, words_seq hd]
    refine ⟨imm_T ws, ?_⟩
    refine lcW_of T (fun w => if oneIn L w = true then some (T w) else none) ws [] (fun w hm K hK => ?_) (by simp; omega) ?_
    · have ww := hw w hm
      refine ⟨(by decide : (5 : Nat) < 8), ?_⟩
      simp only [wSeqS, wNext, wSet, wDrop, wRet, wRetV, wRetN, wIfS, wPar, wPar3, wAsg, wUnp2, wVar, wHv, wC, wB, wU, wNil, wCons, wL, wImm, wTup, wLst, wIf, asB, wTB, wAndV, wOrV, wAndT, wOrT, wNotT, wChain, wNoPart, wPart, wSl, wGet, wYes, wN, List.getElem?_cons_zero, List.getElem?_cons_succ, List.set_cons_zero, List.set_cons_succ, List.length_cons, List.length_nil, if_true, if_false, Bool.false_eq_true, ↓reduceIte, kNeg]
      refine k_first ww (kn_in ?_)
      refine k_last ww (kn_in ?_)
      refine k_ne_bl (a := decide (hdc w ∈ L)) (b := decide (tlc w ∈ L)) ?_
      change K (if oneIn L w = true then some (T w) else none) at hK
      have eo : oneIn L w = !(decide (hdc w ∈ L) == decide (tlc w ∈ L)) := rfl
      rw [eo] at hK
      cases z : !(decide (hdc w ∈ L) == decide (tlc w ∈ L)) with
      | true => rw [z, if_pos rfl] at hK; exact ⟨rfl, hK⟩
      | false => rw [z, if_neg Bool.false_ne_true] at hK; exact hK
    rw [filter_fm, List.nil_append]
    generalize hM : ws.filter (oneIn L) = M
    refine ⟨(by decide : (6 : Nat) < 8), ?_⟩
    simp only [wSeqS, wNext, wSet, wDrop, wRet, wRetV, wRetN, wIfS, wPar, wPar3, wAsg, wUnp2, wVar, wHv, wC, wB, wU, wNil, wCons, wL, wImm, wTup, wLst, wIf, asB, wTB, wAndV, wOrV, wAndT, wOrT, wNotT, wChain, wNoPart, wPart, wSl, wGet, wYes, wN, List.getElem?_cons_zero, List.getElem?_cons_succ, List.set_cons_zero, List.set_cons_succ, List.length_cons, List.length_nil, if_true, if_false, Bool.false_eq_true, ↓reduceIte, kLen, List.length_map, kGt]
    refine ⟨(by decide : (4 : Nat) < 8), ?_⟩
    intro v
    simp only [wFor, wSeq, wHv, List.getElem?_cons_succ, List.getElem?_cons_zero, seqOf]
    refine ⟨imm_T M, ?_⟩
    refine forW_by T M (fun i ρ => ∃ o5 L', ρ = [.bor d, .bor (T (sgn c)), fr o2, .own (knD L'), .own (B (decide ((0 : Int) < (M.length : Int)))), fr o5, .lck v (.lst (M.map T)), fr o7] ∧ Known ws c L' ∧ (∀ x ∈ L, x ∈ L') ∧ (∀ w ∈ M.take i, hdc w ∈ L' ∧ tlc w ∈ L') ∧ (i = 0 → L' = L))
      0 (fun i w ρ ei p nx hn => ?_) (fun ρ p => ?_) _ ⟨o5, L, rfl, kn, fun _ h => h, by simp, fun _ => rfl⟩
    · obtain ⟨o5', L', rfl, kn', sub, al, _⟩ := p
      rw [Nat.zero_add] at al
      have wM : w ∈ M := List.mem_of_getElem? ei
      have wW : w ∈ ws ∧ oneIn L w = true := by rw [← hM] at wM; exact List.mem_filter.mp wM
      have ww := hw w wW.1
      have em : edW w ∈ ws.map edW := List.mem_map.mpr ⟨w, wW.1, rfl⟩
      have rr : Reach (ws.map edW) c (hdc w) ∧ Reach (ws.map edW) c (tlc w) := by
        by_cases z : hdc w ∈ L
        · have := kn.2.2.1 _ z
          exact ⟨this, .fwd em this⟩
        · by_cases y : tlc w ∈ L
          · have := kn.2.2.1 _ y
            exact ⟨.bwd em this, this⟩
          · have := wW.2
            unfold oneIn at this
            rw [decide_eq_false z, decide_eq_false y] at this
            cases this
      refine ⟨(by decide : (5 : Nat) < 8), ?_⟩
      simp only [wSeqS, wNext, wSet, wDrop, wRet, wRetV, wRetN, wIfS, wPar, wPar3, wAsg, wUnp2, wVar, wHv, wC, wB, wU, wNil, wCons, wL, wImm, wTup, wLst, wIf, asB, wTB, wAndV, wOrV, wAndT, wOrT, wNotT, wChain, wNoPart, wPart, wSl, wGet, wYes, wN, List.getElem?_cons_zero, List.getElem?_cons_succ, List.set_cons_zero, List.set_cons_succ, List.length_cons, List.length_nil, if_true, if_false, Bool.false_eq_true, ↓reduceIte, wMT2, wSub, ownD]
      refine ⟨by decide, rfl, ?_⟩
      refine k_first ww (kn_store kn'.1 (by have := kn'.len; omega) fun L1 n1 m1 => ?_)
      have l1 : L1.length ≤ 28 := by
        have := nodup_len (L := L1) (M := hdc w :: L') n1 fun x hx => by
          rcases (m1 x).mp hx with q | q
          · simp [q]
          · simp [q]
        have := kn'.len
        simp at *; omega
      simp only [wSeqS, wNext, wSet, wDrop, wRet, wRetV, wRetN, wIfS, wPar, wPar3, wAsg, wUnp2, wVar, wHv, wC, wB, wU, wNil, wCons, wL, wImm, wTup, wLst, wIf, asB, wTB, wAndV, wOrV, wAndT, wOrT, wNotT, wChain, wNoPart, wPart, wSl, wGet, wYes, wN, List.getElem?_cons_zero, List.getElem?_cons_succ, List.set_cons_zero, List.set_cons_succ, List.length_cons, List.length_nil, if_true, if_false, Bool.false_eq_true, ↓reduceIte, kNeg, ownD]
      refine k_last ww (kn_store n1 (by omega) fun L2 n2 m2 => ?_)
      have mem2 : ∀ x, x ∈ L2 ↔ x ∈ L' ∨ x = hdc w ∨ x = tlc w := fun x => by rw [m2, m1, or_assoc]
      refine hn _ ⟨some (T w), L2, rfl, ⟨n2, (mem2 c).mpr (.inl kn'.2.1), fun x hx => ?_, fun x hx => ?_⟩, fun x hx => (mem2 x).mpr (.inl (sub x hx)), fun u hu => ?_, fun z => by omega⟩
      · rcases (mem2 x).mp hx with q | rfl | rfl
        · exact kn'.2.2.1 x q
        · exact rr.1
        · exact rr.2
      · rcases (mem2 x).mp hx with q | rfl | rfl
        · exact kn'.2.2.2 x q
        · exact .inr (hd_low ww)
        · exact .inr (tl_low ww)
      · rw [Nat.zero_add, List.take_succ, ei] at hu
        rcases List.mem_append.mp hu with q | q
        · exact ⟨(mem2 _).mpr (.inl (al u q).1), (mem2 _).mpr (.inl (al u q).2)⟩
        · have : u = w := by simpa using q
          subst this
          exact ⟨(mem2 _).mpr (.inr (.inl rfl)), (mem2 _).mpr (.inr (.inr rfl))⟩
    · obtain ⟨o5', L', rfl, kn', sub, al, same⟩ := p
      rw [Nat.zero_add, List.take_length] at al
      rw [Nat.zero_add] at same
      have hlk : lcks [.bor d, .bor (T (sgn c)), fr o2, .own (knD L'), .own (B (decide ((0 : Int) < (M.length : Int)))), fr o5', .lck v (.lst (M.map T)), fr o7] = lcks [.bor d, .bor (T (sgn c)), fr o2, .own (knD L), .own (B (decide ((0 : Int) < (M.length : Int)))), fr o5, .lck v (.lst (M.map T)), fr o7] := by
        simp only [lcks_fr, lcks_own, lcks_bor, lcks_lck, lcks_nil]
      refine ⟨hlk, hlk, ?_⟩
      have len' := kn'.len
      have lenL := kn.len
      by_cases hm : M = []
      · subst hm
        have e := same rfl
        subst e
        refine ⟨0 + 2 * (27 - L'.length), by omega, o2, L', false, o5', some (.lst []), o7, rfl, kn', fun _ w hwm => ?_, by rw [if_neg Bool.false_ne_true]⟩
        have : oneIn L' w = false := by
          cases z : oneIn L' w with
          | false => rfl
          | true =>
            have : w ∈ ws.filter (oneIn L') := List.mem_filter.mpr ⟨hwm, z⟩
            rw [hM] at this; cases this
        unfold oneIn at this
        by_cases z : hdc w ∈ L' <;> by_cases y : tlc w ∈ L' <;> simp [z, y] at this ⊢
      · obtain ⟨w, M', rfl⟩ := List.exists_cons_of_ne_nil hm
        have wW : w ∈ ws ∧ oneIn L w = true := List.mem_filter.mp (by rw [hM]; simp)
        obtain ⟨a1, a2⟩ := al w (by simp)
        have grow : L.length + 1 ≤ L'.length := by
          by_cases z : hdc w ∈ L
          · have y : tlc w ∉ L := fun y => by
              have := wW.2
              unfold oneIn at this
              rw [decide_eq_true z, decide_eq_true y] at this
              cases this
            have := nodup_len (L := tlc w :: L) (M := L') (List.nodup_cons.mpr ⟨y, kn.1⟩) fun x hx => by
              rcases List.mem_cons.mp hx with rfl | q
              · exact a2
              · exact sub x q
            simpa using this
          · have := nodup_len (L := hdc w :: L) (M := L') (List.nodup_cons.mpr ⟨z, kn.1⟩) fun x hx => by
              rcases List.mem_cons.mp hx with rfl | q
              · exact a1
              · exact sub x q
            simpa using this
        have eg : decide ((0 : Int) < ((w :: M').length : Int)) = true := decide_eq_true (by rw [List.length_cons]; omega)
        refine ⟨1 + 2 * (27 - L'.length), by omega, o2, L', true, o5', some (.lst ((w :: M').map T)), o7, by rw [eg]; rfl, kn', (fun z => by cases z), by rw [if_pos rfl]⟩
end K20

namespace K20
open PySem PySem.Spec PyProof.Rows L2 PL
abbrev srt (ns : List Int) : List Int := ns.mergeSort fun a b => decide (a ≤ b)
theorem srt_le (l : List Int) : (srt l).Pairwise fun a b => a ≤ b := by
  have := List.pairwise_mergeSort (le := fun a b : Int => decide (a ≤ b)) (fun a b c h1 h2 => decide_eq_true (Int.le_trans (of_decide_eq_true h1) (of_decide_eq_true h2)))
    (fun a b => by
      by_cases h : a ≤ b
      · rw [decide_eq_true h]; rfl
      · rw [decide_eq_true (show b ≤ a by omega), Bool.or_true]) l
  exact this.imp fun h => of_decide_eq_true h
theorem srt_unique {l m : List Int} (p : l.Perm m) (h : m.Pairwise fun a b => a ≤ b) : srt l = m :=
  List.Perm.eq_of_pairwise (fun a b _ _ h1 h2 => by omega) (srt_le l) h ((List.mergeSort_perm ..).trans p)
theorem srt12 : srt [1, -1] = [-1, 1] := srt_unique (List.Perm.swap ..) (by simp)
theorem srt21 : srt [-1, 1] = [-1, 1] := srt_unique (List.Perm.refl _) (by simp)
theorem two_of {L : List Nat} (h : L.length = 2) : ∃ a b, L = [a, b] := by
  match L, h with
  | [a, b], _ => exact ⟨a, b, rfl⟩
theorem odd_zero {E : List Edge} {L : List Nat} (o : Odd E L) {c : Nat} (h : c ∉ L) : bal E c = 0 := Classical.byContradiction fun n => h ((o.2 c).mpr n)
theorem from_iff {E : List Edge} {L : List Nat} (o : Odd E L) (x : Nat) : From E x ↔ L = [] ∨ (srt (L.map (bal E)) = [-1, 1] ∧ bal E x = 1) := by
  constructor
  · rintro ⟨y, hy⟩
    by_cases e : x = y
    · subst e
      refine .inl (List.eq_nil_iff_forall_not_mem.mpr fun c hc => ?_)
      have := hy c
      have := (o.2 c).mp hc
      omega
    · have bx : bal E x = 1 := by rw [hy x, dl_self, dl_ne (Ne.symm e)]; rfl
      have bY : bal E y = -1 := by rw [hy y, dl_self, dl_ne e]; rfl
      have mem : ∀ c, c ∈ L ↔ c = x ∨ c = y := fun c => by
        rw [o.2 c, hy c]
        by_cases h1 : x = c
        · subst h1; rw [dl_self, dl_ne (Ne.symm e)]; simp
        · by_cases h2 : y = c
          · subst h2; rw [dl_self, dl_ne h1]; simp
          · rw [dl_ne h1, dl_ne h2]; simp [Ne.symm h1, Ne.symm h2]
      have l1 := nodup_len (L := L) (M := [x, y]) o.1 fun c hc => by rcases (mem c).mp hc with rfl | rfl <;> simp
      have l2 := nodup_len (L := [x, y]) (M := L) (by simp [e]) fun c hc => (mem c).mpr (by simpa using hc)
      obtain ⟨a, b, rfl⟩ := two_of (L := L) (by simp at l1 l2; omega)
      have nab : a ≠ b := by have := o.1; simp at this; exact this
      have ha := (mem a).mp (by simp)
      have hb := (mem b).mp (by simp)
      refine .inr ⟨?_, bx⟩
      rcases ha with rfl | rfl <;> rcases hb with rfl | rfl
      · exact absurd rfl nab
      · show srt [bal E a, bal E b] = _; rw [bx, bY]; exact srt12
      · show srt [bal E a, bal E b] = _; rw [bx, bY]; exact srt21
      · exact absurd rfl nab
  · rintro (rfl | ⟨hs, hx⟩)
    · exact ⟨x, fun u => by rw [odd_zero o (by simp)]; omega⟩
    · have pm : (L.map (bal E)).Perm [-1, 1] := by rw [← hs]; exact (List.mergeSort_perm ..).symm
      obtain ⟨a, b, rfl⟩ := two_of (L := L) (by have := pm.length_eq; simpa using this)
      have nab : a ≠ b := by have := o.1; simp at this; exact this
      have h1 : bal E a = -1 ∨ bal E a = 1 := by have := pm.mem_iff.mp (show bal E a ∈ _ by simp); simpa using this
      have h2 : bal E b = -1 ∨ bal E b = 1 := by have := pm.mem_iff.mp (show bal E b ∈ _ by simp); simpa using this
      have h3 : bal E a = -1 ∨ bal E b = -1 := by have := pm.mem_iff.mpr (show (-1 : Int) ∈ [-1, 1] by simp); simp at this; omega
      have h4 : bal E a = 1 ∨ bal E b = 1 := by have := pm.mem_iff.mpr (show (1 : Int) ∈ [-1, 1] by simp); simp at this; omega
      have mx : x = a ∨ x = b := by have := (o.2 x).mpr (by omega); simpa using this
      have out : ∀ u, u ≠ a → u ≠ b → bal E u = 0 := fun u n1 n2 => odd_zero o (by simp [n1, n2])
      rcases mx with rfl | rfl
      · refine ⟨b, fun u => ?_⟩
        by_cases e1 : x = u
        · subst e1; rw [dl_self, dl_ne (Ne.symm nab)]; omega
        · by_cases e2 : b = u
          · subst e2; rw [dl_self, dl_ne nab]; omega
          · rw [dl_ne e1, dl_ne e2, out u (Ne.symm e1) (Ne.symm e2)]; rfl
      · refine ⟨a, fun u => ?_⟩
        by_cases e1 : x = u
        · subst e1; rw [dl_self, dl_ne nab]; omega
        · by_cases e2 : a = u
          · subst e2; rw [dl_self, dl_ne (Ne.symm nab)]; omega
          · rw [dl_ne e1, dl_ne e2, out u (Ne.symm e2) (Ne.symm e1)]; rfl
theorem even_iff {E : List Edge} {L : List Nat} (o : Odd E L) : Even E ↔ L = [] ∨ srt (L.map (bal E)) = [-1, 1] := by
  constructor
  · rintro ⟨x, hx⟩
    exact ((from_iff o x).mp hx).imp id And.left
  · rintro (h | h)
    · exact ⟨0, (from_iff o 0).mpr (.inl h)⟩
    · have pm : (L.map (bal E)).Perm [-1, 1] := by rw [← h]; exact (List.mergeSort_perm ..).symm
      have := pm.mem_iff.mpr (show (1 : Int) ∈ [-1, 1] by simp)
      obtain ⟨b, _, hb⟩ := List.mem_map.mp this
      exact ⟨b, (from_iff o b).mpr (.inr ⟨h, hb⟩)⟩
theorem k_sortV {ks : List Key} {ns : List Int} {R : D → Prop} (hl : ns.length ≤ 1000) (h : R (.lst ((srt ns).map N))) : kSortV (.dic ks (ns.map N)) R := ⟨sortOk_ints ns hl, by
  have := sortD_ints ns
  show R (.lst (sortD (ns.map fun n => .v (.int n))))
  rw [this]; exact h⟩
theorem odd_len {ws : List Str} {L : List Nat} (hw : ∀ w ∈ ws, Wd w) (o : Odd (ws.map edW) L) : L.length ≤ 26 := by
  have zero : ∀ {E : List Edge} {c : Nat}, (∀ e ∈ E, e.1 ≠ c ∧ e.2 ≠ c) → bal E c = 0 := by
    intro E c
    induction E with
    | nil => intro _; rfl
    | cons e E ih =>
      intro h
      show dl e.1 c - dl e.2 c + bal E c = 0
      rw [dl_ne (h e (by simp)).1, dl_ne (h e (by simp)).2, ih fun f hf => h f (by simp [hf])]
      rfl
  have := nodup_len (L := L) (M := (List.range 26).map (97 + ·)) o.1 fun c hc => by
    refine Classical.byContradiction fun n => (o.2 c).mp hc (zero fun e he => ?_)
    obtain ⟨w, hm, rfl⟩ := List.mem_map.mp he
    have h1 := hd_low (hw w hm)
    have h2 := tl_low (hw w hm)
    have nc : ¬ (97 ≤ c ∧ c ≤ 122) := fun q => n (List.mem_map.mpr ⟨c - 97, List.mem_range.mpr (by omega), by omega⟩)
    exact ⟨fun z => nc (by rw [← z]; exact h1), fun z => nc (by rw [← z]; exact h2)⟩
  simpa using this
theorem map_bal (E : List Edge) (L : List Nat) : (L.map fun c => N (bal E c)) = (L.map (bal E)).map N := by rw [List.map_map]; rfl
open Classical in
theorem l_are_even_enough : ∀ ds R, g_are_even_enough ds R → w_are_even_enough { nx := fun _ => R (.v .non), rt := R } (startR ["words", "surplus"] ds) := by
  rintro ds R ⟨d, ws, rfl, hd, hl, hw, h⟩
  change w_are_even_enough _ [.bor d, .no]
  simp only [w_are_even_enough, wSeqS, wNext, wSet, wDrop, wRet, wRetV, wRetN, wIfS, wPar, wPar3, wAsg, wUnp2, wVar, wHv, wC, wB, wU, wNil, wCons, wL, wImm, wTup, wLst, wIf, asB, wTB, wAndV, wOrV, wAndT, wOrT, wNotT, wChain, wNoPart, wPart, wSl, wGet, wYes, wN, List.getElem?_cons_zero, List.getElem?_cons_succ, List.set_cons_zero, List.set_cons_succ, List.length_cons, List.length_nil, if_true, if_false, Bool.false_eq_true, ↓reduceIte]
  refine ⟨d, ws, rfl, hd, hl, hw, fun L o => ⟨(by decide : (1 : Nat) < 2), ?_⟩⟩
  have lL := odd_len hw o
  have ev := even_iff o
  simp only [wSeqS, wNext, wSet, wDrop, wRet, wRetV, wRetN, wIfS, wPar, wPar3, wAsg, wUnp2, wVar, wHv, wC, wB, wU, wNil, wCons, wL, wImm, wTup, wLst, wIf, asB, wTB, wAndV, wOrV, wAndT, wOrT, wNotT, wChain, wNoPart, wPart, wSl, wGet, wYes, wN, List.getElem?_cons_zero, List.getElem?_cons_succ, List.set_cons_zero, List.set_cons_succ, List.length_cons, List.length_nil, if_true, if_false, Bool.false_eq_true, ↓reduceIte, kLen, List.length_map]
  refine k_eq_int ?_
  by_cases e : L = []
  · subst e
    rw [decide_eq_true (ev.mpr (.inl rfl))] at h
    simp only [List.length_nil, wSeqS, wNext, wSet, wDrop, wRet, wRetV, wRetN, wIfS, wPar, wPar3, wAsg, wUnp2, wVar, wHv, wC, wB, wU, wNil, wCons, wL, wImm, wTup, wLst, wIf, asB, wTB, wAndV, wOrV, wAndT, wOrT, wNotT, wChain, wNoPart, wPart, wSl, wGet, wYes, wN, List.getElem?_cons_zero, List.getElem?_cons_succ, List.set_cons_zero, List.set_cons_succ, List.length_cons, List.length_nil, if_true, if_false, Bool.false_eq_true, ↓reduceIte]
    exact h
  · rw [decide_eq_false (show ¬ (L.length : Int) = 0 from fun z => e (List.length_eq_zero_iff.mp (by omega)))]
    simp only [wSeqS, wNext, wSet, wDrop, wRet, wRetV, wRetN, wIfS, wPar, wPar3, wAsg, wUnp2, wVar, wHv, wC, wB, wU, wNil, wCons, wL, wImm, wTup, wLst, wIf, asB, wTB, wAndV, wOrV, wAndT, wOrT, wNotT, wChain, wNoPart, wPart, wSl, wGet, wYes, wN, List.getElem?_cons_zero, List.getElem?_cons_succ, List.set_cons_zero, List.set_cons_succ, List.length_cons, List.length_nil, if_true, if_false, Bool.false_eq_true, ↓reduceIte, map_bal]
    refine k_sortV (by rw [List.length_map]; omega) ?_
    simp only [kNeg]
    refine ⟨by decide, ?_⟩
    refine k_eq_ints (a := srt (L.map (bal (ws.map edW)))) (b := [-1, 1]) ?_
    have : decide (srt (L.map (bal (ws.map edW))) = [-1, 1]) = decide (Even (ws.map edW)) := decide_eq_decide.mpr ⟨fun z => ev.mpr (.inr z), fun z => (ev.mp z).resolve_left e⟩
    rw [this]
    exact h
theorem hangs_all {ws : List Str} {c : Nat} : (hangs ws c).length = ws.length ↔ Conn (ws.map edW) c := by
  classical
  have l : (List.range ws.length).length = ws.length := List.length_range
  unfold hangs
  constructor
  · intro h e he
    have h' := List.length_filter_eq_length_iff.mp (h.trans l.symm)
    obtain ⟨w, hm, rfl⟩ := List.mem_map.mp he
    obtain ⟨i, hi, ew⟩ := List.getElem_of_mem hm
    have := of_decide_eq_true (h' i (List.mem_range.mpr hi))
    rw [List.getD_eq_getElem?_getD, List.getElem?_eq_getElem hi, ew] at this
    exact this
  · intro h
    refine (List.length_filter_eq_length_iff.mpr fun i hi => ?_).trans l
    rw [List.mem_range] at hi
    refine decide_eq_true (h (edW (ws.getD i ⟨#[]⟩)) (List.mem_map.mpr ⟨_, ?_, rfl⟩))
    rw [List.getD_eq_getElem?_getD, List.getElem?_eq_getElem hi]
    exact List.getElem_mem hi
open Classical in
theorem l_can_go_on : ∀ ds R, g_can_go_on ds R → w_can_go_on { nx := fun _ => R (.v .non), rt := R } (startR ["words", "letter", "surplus"] ds) := by
  rintro ds R ⟨d, ws, c, rfl, hd, hl, hw, h⟩
  change w_can_go_on _ [.bor d, .bor (T (sgn c)), .no]
  simp only [w_can_go_on, wSeqS, wNext, wSet, wDrop, wRet, wRetV, wRetN, wIfS, wPar, wPar3, wAsg, wUnp2, wVar, wHv, wC, wB, wU, wNil, wCons, wL, wImm, wTup, wLst, wIf, asB, wTB, wAndV, wOrV, wAndT, wOrT, wNotT, wChain, wNoPart, wPart, wSl, wGet, wYes, wN, List.getElem?_cons_zero, List.getElem?_cons_succ, List.set_cons_zero, List.set_cons_succ, List.length_cons, List.length_nil, if_true, if_false, Bool.false_eq_true, ↓reduceIte]
  refine words_len hd ?_
  refine k_eq_int ?_
  by_cases e0 : ws = []
  · subst e0
    rw [decide_eq_true (show From (([] : List Str).map edW) c ∧ Conn (([] : List Str).map edW) c from ⟨⟨c, fun u => by show (0 : Int) = dl c u - dl c u; omega⟩, fun e he => nomatch he⟩)] at h
    exact h
  · rw [decide_eq_false (show ¬ (ws.length : Int) = 0 from fun z => e0 (List.length_eq_zero_iff.mp (by omega)))]
    simp only [wSeqS, wNext, wSet, wDrop, wRet, wRetV, wRetN, wIfS, wPar, wPar3, wAsg, wUnp2, wVar, wHv, wC, wB, wU, wNil, wCons, wL, wImm, wTup, wLst, wIf, asB, wTB, wAndV, wOrV, wAndT, wOrT, wNotT, wChain, wNoPart, wPart, wSl, wGet, wYes, wN, List.getElem?_cons_zero, List.getElem?_cons_succ, List.set_cons_zero, List.set_cons_succ, List.length_cons, List.length_nil, if_true, if_false, Bool.false_eq_true, ↓reduceIte]
    refine ⟨d, ws, rfl, hd, hl, hw, fun L o => ⟨(by decide : (2 : Nat) < 3), ?_⟩⟩
    have lL := odd_len hw o
    have fi := from_iff o c
    -- the last question
    have last : (From (ws.map edW) c) → wRet (wB kEq (wL kLen (wCons (wL g_together_with (wCons (wVar 0) (wCons (wVar 1) wNil))) wNil)) (wL kLen (wCons (wVar 0) wNil))) { nx := fun _ => R (.v .non), rt := R } [.bor d, .bor (T (sgn c)), .own (tabD L (bal (ws.map edW)))] := fun hf => by
      simp only [wSeqS, wNext, wSet, wDrop, wRet, wRetV, wRetN, wIfS, wPar, wPar3, wAsg, wUnp2, wVar, wHv, wC, wB, wU, wNil, wCons, wL, wImm, wTup, wLst, wIf, asB, wTB, wAndV, wOrV, wAndT, wOrT, wNotT, wChain, wNoPart, wPart, wSl, wGet, wYes, wN, List.getElem?_cons_zero, List.getElem?_cons_succ, List.set_cons_zero, List.set_cons_succ, List.length_cons, List.length_nil, if_true, if_false, Bool.false_eq_true, ↓reduceIte]
      refine ⟨d, ws, c, rfl, hd, hl, hw, ?_⟩
      simp only [kLen, List.length_map]
      refine words_len hd ?_
      refine k_eq_int ?_
      have : decide (((hangs ws c).length : Int) = (ws.length : Int)) = decide (From (ws.map edW) c ∧ Conn (ws.map edW) c) := decide_eq_decide.mpr ⟨fun z => ⟨hf, hangs_all.mp (by omega)⟩, fun z => by have := hangs_all.mpr z.2; omega⟩
      rw [this]
      exact h
    have no : ¬ From (ws.map edW) c → R (B false) := fun hf => by
      rw [decide_eq_false (fun z => hf z.1)] at h
      exact h
    simp only [wSeqS, wNext, wSet, wDrop, wRet, wRetV, wRetN, wIfS, wPar, wPar3, wAsg, wUnp2, wVar, wHv, wC, wB, wU, wNil, wCons, wL, wImm, wTup, wLst, wIf, asB, wTB, wAndV, wOrV, wAndT, wOrT, wNotT, wChain, wNoPart, wPart, wSl, wGet, wYes, wN, List.getElem?_cons_zero, List.getElem?_cons_succ, List.set_cons_zero, List.set_cons_succ, List.length_cons, List.length_nil, if_true, if_false, Bool.false_eq_true, ↓reduceIte, kLen, List.length_map, kGt]
    by_cases e : L = []
    · have hf := fi.mpr (.inl e)
      have : (L.length : Int) = 0 := by rw [e]; rfl
      rw [this]
      exact last hf
    · rw [decide_eq_true (show (0 : Int) < (L.length : Int) by have := List.length_pos_iff.mpr e; omega)]
      simp only [wSeqS, wNext, wSet, wDrop, wRet, wRetV, wRetN, wIfS, wPar, wPar3, wAsg, wUnp2, wVar, wHv, wC, wB, wU, wNil, wCons, wL, wImm, wTup, wLst, wIf, asB, wTB, wAndV, wOrV, wAndT, wOrT, wNotT, wChain, wNoPart, wPart, wSl, wGet, wYes, wN, List.getElem?_cons_zero, List.getElem?_cons_succ, List.set_cons_zero, List.set_cons_succ, List.length_cons, List.length_nil, if_true, if_false, Bool.false_eq_true, ↓reduceIte, map_bal]
      refine k_sortV (by rw [List.length_map]; omega) ?_
      simp only [kNeg]
      refine ⟨by decide, ?_⟩
      refine k_ne_ints (a := srt (L.map (bal (ws.map edW)))) (b := [-1, 1]) ?_
      by_cases hs : srt (L.map (bal (ws.map edW))) = [-1, 1]
      · rw [decide_eq_true hs]
        simp only [wSeqS, wNext, wSet, wDrop, wRet, wRetV, wRetN, wIfS, wPar, wPar3, wAsg, wUnp2, wVar, wHv, wC, wB, wU, wNil, wCons, wL, wImm, wTup, wLst, wIf, asB, wTB, wAndV, wOrV, wAndT, wOrT, wNotT, wChain, wNoPart, wPart, wSl, wGet, wYes, wN, List.getElem?_cons_zero, List.getElem?_cons_succ, List.set_cons_zero, List.set_cons_succ, List.length_cons, List.length_nil, if_true, if_false, Bool.false_eq_true, ↓reduceIte, Bool.not_true, isDic]
        refine ⟨trivial, ?_⟩
        rw [← map_bal]
        refine tab_get (L := L) (f := bal (ws.map edW)) (fun x hx => odd_zero o hx) ?_
        refine k_ne_int ?_
        by_cases hb : bal (ws.map edW) c = 1
        · rw [decide_eq_true hb]
          exact last (fi.mpr (.inr ⟨hs, hb⟩))
        · rw [decide_eq_false hb]
          refine no fun z => ?_
          rcases fi.mp z with q | q
          · exact e q
          · exact hb q.2
      · rw [decide_eq_false hs]
        refine no fun z => ?_
        rcases fi.mp z with q | q
        · exact e q
        · exact hs q.1
end K20

namespace K20
open PySem PySem.Spec PyProof.Rows L2 PL
/-! ### chain -/
section
variable {ι : Type} [DecidableEq ι] {ed : ι → Edge}
theorem way_cons {left : List ι} {k : ι} (hk : k ∈ left) (h : Next ed left k) : WayF ed left (ed k).1 := by
  obtain ⟨T, y, t, p⟩ := euler_suf h.1 h.2
  have q : left.Perm (k :: T) := (List.perm_cons_erase hk).trans (p.cons k)
  exact euler_nec (T := k :: T) ⟨rfl, t⟩ q
theorem way_next {left : List ι} {c : Nat} (h : WayF ed left c) (ne : left ≠ []) : ∃ k ∈ left, (ed k).1 = c ∧ Next ed left k := by
  obtain ⟨T, y, t, p⟩ := euler_suf h.1 h.2
  cases T with
  | nil => exact absurd (List.Perm.eq_nil p) ne
  | cons k T =>
    obtain ⟨h1, h2⟩ := t
    have hk : k ∈ left := p.mem_iff.mpr (by simp)
    have q : (left.erase k).Perm T := by
      have := p.erase k
      rwa [List.erase_cons_head] at this
    exact ⟨k, hk, h1, euler_nec h2 q⟩
end
theorem trail_links {ed : Nat → Edge} : ∀ {is : List Nat} {x y : Nat}, Trail ed x is y → ∀ p ∈ is.zip (is.drop 1), (ed p.1).2 = (ed p.2).1
  | [], x, y, t, p, hp => by simp at hp
  | [i], x, y, t, p, hp => by simp at hp
  | i :: j :: is, x, y, ⟨_, t⟩, p, hp => by
    rw [List.drop_one, List.tail_cons, List.zip_cons_cons] at hp
    rcases List.mem_cons.mp hp with rfl | hp
    · exact t.1.symm
    · exact trail_links (is := j :: is) t p (by rw [List.drop_one, List.tail_cons]; exact hp)
theorem trail_snoc {ι : Type} {ed : ι → Edge} {is : List ι} {x c : Nat} {k : ι} (t : Trail ed x is c) (h : (ed k).1 = c) : Trail ed x (is ++ [k]) (ed k).2 := trail_app t ⟨h, rfl⟩
theorem filter_least {Q : Nat → Bool} {n k : Nat} {rest : List Nat} (e : (List.range n).filter Q = k :: rest) : ∀ j, j < k → Q j = false := by
  intro j hj
  cases q : Q j with
  | false => rfl
  | true =>
    have hk : k ∈ (List.range n).filter Q := by rw [e]; simp
    have kn := List.mem_range.mp (List.mem_filter.mp hk).1
    have m : j ∈ (List.range n).filter Q := List.mem_filter.mpr ⟨List.mem_range.mpr (by omega), q⟩
    have pw : ((List.range n).filter Q).Pairwise (· < ·) := List.Pairwise.filter _ List.pairwise_lt_range
    rw [e] at m pw
    rcases List.mem_cons.mp m with z | z
    · omega
    · have := (List.pairwise_cons.mp pw).1 j z
      omega
theorem range_ws (ws : List Str) : (List.range ws.length).map (wsI ws) = ws := by
  apply List.ext_getElem?
  intro i
  rw [List.getElem?_map]
  by_cases h : i < ws.length
  · rw [List.getElem?_range h]
    simp [wsI, List.getD_eq_getElem?_getD, List.getElem?_eq_getElem h]
  · rw [List.getElem?_eq_none (by simpa using h), List.getElem?_eq_none (by omega)]
    rfl
theorem range_ed (ws : List Str) : (List.range ws.length).map (edI ws) = ws.map edW := by
  have := congrArg (List.map edW) (range_ws ws)
  rw [List.map_map] at this
  exact this
theorem at0_nat (ws : List Str) (i : Nat) : at0 ws (i : Int) = wsI ws i := by unfold at0; rw [Int.toNat_natCast]
theorem isOrd_of {l : List Nat} {n : Nat} (p : l.Perm (List.range n)) : isOrd (l.map fun (i : Nat) => (i : Int)) n = true := by
  refine decide_eq_true (srt_unique (p.map _) ?_)
  rw [List.pairwise_map]
  exact List.pairwise_lt_range.imp fun h => by omega
theorem chain_ok {ws : List Str} {found : List Nat} {x y : Nat} (p : found.Perm (List.range ws.length)) (t : Trail (edI ws) x found y) : isChain ws (found.map fun (i : Nat) => (i : Int)) = true := by
  unfold isChain links
  rw [isOrd_of p, Bool.true_and, List.all_eq_true]
  intro q hq
  rw [← List.map_drop, List.zip_map, List.mem_map] at hq
  obtain ⟨r, hr, rfl⟩ := hq
  have := trail_links t r hr
  show (tlc (at0 ws (r.1 : Int)) == hdc (at0 ws (r.2 : Int))) = true
  rw [at0_nat, at0_nat, beq_iff_eq]
  exact this
def ltD : Option Nat → D
  | none => .v .non
  | some c => T (sgn c)
theorem in_pair {lt : Option Nat} {c : Nat} {R : D → Prop} (h : R (B (decide (lt = none ∨ lt = some c)))) : kIn (ltD lt) (.tup false [.v .non, T (sgn c)]) R := by
  cases lt with
  | none => exact h
  | some a =>
    have e : kInB (ltD (some a)) (.tup false [.v .non, T (sgn c)]) = some (decide ((some a : Option Nat) = none ∨ (some a : Option Nat) = some c)) := by
      show some (eqV .non (.str (sgn a)) || (eqV (.str (sgn c)) (.str (sgn a)) || false)) = _
      show some (false || ((sgn c == sgn a) || false)) = _
      rw [sgn_inj]
      by_cases z : c = a
      · subst z; simp
      · have : a ≠ c := Ne.symm z
        simp [z, this]
    unfold kIn
    simp only [e]
    exact h
theorem erase_cast (k : Nat) : ∀ l : List Nat, (l.map fun (i : Nat) => (i : Int)).erase (k : Int) = (l.erase k).map fun (i : Nat) => (i : Int)
  | [] => rfl
  | a :: l => by
    rw [List.map_cons, List.erase_cons, List.erase_cons]
    by_cases h : a = k
    · subst h; simp
    · have : ¬ ((a : Int) = (k : Int)) := by omega
      simp [h, this, erase_cast k l]
theorem intsOf_nat (l : List Nat) : intsOf (l.map Nn) = some (l.map fun (i : Nat) => (i : Int)) := by
  induction l with
  | nil => rfl
  | cons a l ih => rw [List.map_cons, intsOf, ih]; rfl
theorem imm_Nn (l : List Nat) : immL (l.map Nn) = true := immL_map Nn (fun _ => rfl) l
theorem k_at {ws : List Str} {z : Bool} {i : Nat} {R : D → Prop} (h : i < ws.length) (g : R (T (wsI ws i))) : kIx (.tup z (ws.map T)) (Nn i) R := k_book ⟨by omega, by omega⟩ (by rw [at0_nat]; exact g)
open Classical in
theorem l_chain : ∀ ds R, g_chain ds R → w_chain { nx := fun _ => R (.v .non), rt := R } (startR ["book", "left", "found", "letter", "some", "at", "other", "rest"] ds) := by
  rintro ds R ⟨z, ws, rfl, hb, hyes, hno⟩
  change w_chain _ [.bor (.tup z (ws.map T)), .no, .no, .no, .no, .no, .no, .no]
  simp only [w_chain, wSeqS, wNext, wSet, wDrop, wRet, wRetV, wRetN, wIfS, wPar, wPar3, wAsg, wUnp2, wVar, wHv, wC, wB, wU, wNil, wCons, wL, wImm, wTup, wLst, wIf, asB, wTB, wAndV, wOrV, wAndT, wOrT, wNotT, wChain, wNoPart, wPart, wSl, wGet, wYes, wN, List.getElem?_cons_zero, List.getElem?_cons_succ, List.set_cons_zero, List.set_cons_succ, List.length_cons, List.length_nil, if_true, if_false, Bool.false_eq_true, ↓reduceIte]
  refine ⟨z, ws, rfl, hb, ?_⟩
  have hn := hb.1
  simp only [wLRg1, wSeqS, wNext, wSet, wDrop, wRet, wRetV, wRetN, wIfS, wPar, wPar3, wAsg, wUnp2, wVar, wHv, wC, wB, wU, wNil, wCons, wL, wImm, wTup, wLst, wIf, asB, wTB, wAndV, wOrV, wAndT, wOrT, wNotT, wChain, wNoPart, wPart, wSl, wGet, wYes, wN, List.getElem?_cons_zero, List.getElem?_cons_succ, List.set_cons_zero, List.set_cons_succ, List.length_cons, List.length_nil, if_true, if_false, Bool.false_eq_true, ↓reduceIte, kLen, List.length_map]
  refine ⟨rgOk (by omega), Nat.zero_le _, (by decide : (1 : Nat) < 8), (by decide : (2 : Nat) < 8), (by decide : (3 : Nat) < 8), ?_⟩
  rw [Int.toNat_natCast, rngD0, List.map_map]
  -- while len(left) > 0
  refine ⟨fun m ρ => ∃ (left found : List Nat) (lt : Option Nat) (o4 o5 o6 o7 : Option D), ρ = [.bor (.tup z (ws.map T)), .own (.lst (left.map Nn)), .own (.tup false (found.map Nn)), .own (ltD lt), fr o4, fr o5, fr o6, fr o7] ∧ (found ++ left).Perm (List.range ws.length) ∧
      ((found = [] ∧ lt = none ∧ left = List.range ws.length) ∨ (∃ x c, lt = some c ∧ found ≠ [] ∧ Trail (edI ws) x found c ∧ WayF (edI ws) left c ∧ Least ws found)) ∧ m = left.length,
    ⟨_, List.range ws.length, [], none, none, none, none, none, rfl, by simp, .inl ⟨rfl, rfl, rfl⟩, rfl⟩, ?_⟩
  rintro m ρ ⟨left, found, lt, o4, o5, o6, o7, rfl, pm, inv, rfl⟩
  have ll : left.length ≤ 60 := by
    have := pm.length_eq
    rw [List.length_append, List.length_range] at this; omega
  have nd : left.Nodup := (List.nodup_append.mp (pm.nodup_iff.mpr List.nodup_range)).2.1
  have inR : ∀ i ∈ left, i < ws.length := fun i hi => List.mem_range.mp (pm.mem_iff.mp (by simp [hi]))
  simp only [wSeqS, wNext, wSet, wDrop, wRet, wRetV, wRetN, wIfS, wPar, wPar3, wAsg, wUnp2, wVar, wHv, wC, wB, wU, wNil, wCons, wL, wImm, wTup, wLst, wIf, asB, wTB, wAndV, wOrV, wAndT, wOrT, wNotT, wChain, wNoPart, wPart, wSl, wGet, wYes, wN, List.getElem?_cons_zero, List.getElem?_cons_succ, List.set_cons_zero, List.set_cons_succ, List.length_cons, List.length_nil, if_true, if_false, Bool.false_eq_true, ↓reduceIte, kLen, List.length_map, kGt]
  by_cases e0 : left = []
  · subst e0
    rw [decide_eq_false (by simp)]
    simp only [wSeqS, wNext, wSet, wDrop, wRet, wRetV, wRetN, wIfS, wPar, wPar3, wAsg, wUnp2, wVar, wHv, wC, wB, wU, wNil, wCons, wL, wImm, wTup, wLst, wIf, asB, wTB, wAndV, wOrV, wAndT, wOrT, wNotT, wChain, wNoPart, wPart, wSl, wGet, wYes, wN, List.getElem?_cons_zero, List.getElem?_cons_succ, List.set_cons_zero, List.set_cons_succ, List.length_cons, List.length_nil, if_true, if_false, Bool.false_eq_true, ↓reduceIte]
    rw [List.append_nil] at pm
    rcases inv with ⟨rfl, rfl, e⟩ | ⟨x, c, rfl, ne, t, wf, lst⟩
    · have e' : ws = [] := List.length_eq_zero_iff.mp (by have := congrArg List.length e; simpa using this.symm)
      subst e'
      exact hyes ⟨0, ⟨0, fun u => by show (0 : Int) = dl 0 u - dl 0 u; omega⟩, fun e he => nomatch he⟩ [] (chain_ok (x := 0) (y := 0) (found := []) (by simp) rfl) (fun k hk => by cases hk)
    · have hw : Way (ws.map edW) := by
        have := euler_nec (E := List.range ws.length) t pm.symm
        rw [range_ed] at this
        exact ⟨x, this⟩
      have := hyes hw _ (chain_ok pm t) lst
      rw [List.map_map] at this
      exact this
  · rw [decide_eq_true (show (0 : Int) < (left.length : Int) by have := List.length_pos_iff.mpr e0; omega)]
    refine ⟨by decide, (by decide : (4 : Nat) < 8), ?_⟩
    simp only [wLock, List.getElem?_cons_succ, List.getElem?_cons_zero, List.set_cons_succ, List.set_cons_zero]
    intro v
    simp only [wFor, wSeq, wHv, List.getElem?_cons_succ, List.getElem?_cons_zero, seqOf]
    refine ⟨imm_Nn left, ?_⟩
    have okI : ∀ i ∈ left, Wd (wsI ws i) := fun i hi => hb.2.1 _ (by
      show ws.getD i ⟨#[]⟩ ∈ ws
      rw [List.getD_eq_getElem?_getD, List.getElem?_eq_getElem (inR i hi)]
      exact List.getElem_mem (inR i hi))
    generalize hQ : (fun i : Nat => decide ((lt = none ∨ lt = some (hdc (wsI ws i))) ∧ Next (edI ws) left i)) = Q
    refine forW_by Nn left (fun i ρ => ∃ o5 o6 o7, ρ = [.bor (.tup z (ws.map T)), .lck v (.lst (left.map Nn)), .own (.tup false (found.map Nn)), .own (ltD lt), .own (.lst (((left.take i).filter Q).map Nn)), fr o5, fr o6, fr o7])
      0 (fun i at_ ρ ei p nx hnx => ?_) (fun ρ p => ?_) _ ⟨o5, o6, o7, rfl⟩
    · obtain ⟨p5, p6, p7, rfl⟩ := p
      have hat : at_ ∈ left := List.mem_of_getElem? ei
      have ww := okI at_ hat
      refine ⟨(by decide : (5 : Nat) < 8), ?_⟩
      simp only [wSeqS, wNext, wSet, wDrop, wRet, wRetV, wRetN, wIfS, wPar, wPar3, wAsg, wUnp2, wVar, wHv, wC, wB, wU, wNil, wCons, wL, wImm, wTup, wLst, wIf, asB, wTB, wAndV, wOrV, wAndT, wOrT, wNotT, wChain, wNoPart, wPart, wSl, wGet, wYes, wN, List.getElem?_cons_zero, List.getElem?_cons_succ, List.set_cons_zero, List.set_cons_succ, List.length_cons, List.length_nil, if_true, if_false, Bool.false_eq_true, ↓reduceIte, wLc, wLcK, wDc, wDcK, wZip, wSeq, wEnum, wRng1, wRng2, borAll, wipeR, Sl.toBor, List.map_cons, List.map_nil, seqOf]
      refine ⟨imm_Nn left, ?_⟩
      refine lcW_of Nn (fun j => if (j != at_) = true then some (T (wsI ws j)) else none) left [] (fun j hj K hK => ?_) (by simp; omega) ?_
      · refine ⟨(by decide : (6 : Nat) < 8), ?_⟩
        simp only [wSeqS, wNext, wSet, wDrop, wRet, wRetV, wRetN, wIfS, wPar, wPar3, wAsg, wUnp2, wVar, wHv, wC, wB, wU, wNil, wCons, wL, wImm, wTup, wLst, wIf, asB, wTB, wAndV, wOrV, wAndT, wOrT, wNotT, wChain, wNoPart, wPart, wSl, wGet, wYes, wN, List.getElem?_cons_zero, List.getElem?_cons_succ, List.set_cons_zero, List.set_cons_succ, List.length_cons, List.length_nil, if_true, if_false, Bool.false_eq_true, ↓reduceIte]
        refine k_ne_int ?_
        by_cases e : j = at_
        · rw [decide_eq_true (show (j : Int) = (at_ : Int) by omega)]
          have : (j != at_) = false := by simp [e]
          rw [this, if_neg Bool.false_ne_true] at hK
          exact hK
        · rw [decide_eq_false (show ¬ (j : Int) = (at_ : Int) by omega)]
          have : (j != at_) = true := by simp [e]
          rw [this, if_pos rfl] at hK
          refine k_at (inR j hj) ?_
          exact ⟨rfl, hK⟩
      rw [filter_fm, List.nil_append]
      refine ⟨(by decide : (7 : Nat) < 8), ?_⟩
      simp only [wSeqS, wNext, wSet, wDrop, wRet, wRetV, wRetN, wIfS, wPar, wPar3, wAsg, wUnp2, wVar, wHv, wC, wB, wU, wNil, wCons, wL, wImm, wTup, wLst, wIf, asB, wTB, wAndV, wOrV, wAndT, wOrT, wNotT, wChain, wNoPart, wPart, wSl, wGet, wYes, wN, List.getElem?_cons_zero, List.getElem?_cons_succ, List.set_cons_zero, List.set_cons_succ, List.length_cons, List.length_nil, if_true, if_false, Bool.false_eq_true, ↓reduceIte, kNeg]
      refine k_at (inR _ hat) (k_first ww ⟨rfl, by decide, in_pair ?_⟩)
      have tk : (left.take (0 + i + 1)).filter Q = (left.take (0 + i)).filter Q ++ (if Q at_ = true then [at_] else []) := by
        rw [Nat.zero_add, List.take_succ, ei, List.filter_append]
        congr 1
        show List.filter Q [at_] = _
        rw [List.filter_cons, List.filter_nil]
      have skip : Q at_ = false → nx [.bor (.tup z (ws.map T)), .lck v (.lst (left.map Nn)), .own (.tup false (found.map Nn)), .own (ltD lt), .own (.lst (((left.take (0 + i)).filter Q).map Nn)), .own (Nn at_), fr p6, .own (.lst ((left.filter fun j => j != at_).map fun j => T (wsI ws j)))] := fun e => by
        refine hnx _ ⟨some (Nn at_), p6, some (.lst ((left.filter fun j => j != at_).map fun j => T (wsI ws j))), ?_⟩
        rw [tk, e, if_neg Bool.false_ne_true, List.append_nil]
        rfl
      by_cases h1 : lt = none ∨ lt = some (hdc (wsI ws at_))
      · rw [decide_eq_true h1]
        simp only [wSeqS, wNext, wSet, wDrop, wRet, wRetV, wRetN, wIfS, wPar, wPar3, wAsg, wUnp2, wVar, wHv, wC, wB, wU, wNil, wCons, wL, wImm, wTup, wLst, wIf, asB, wTB, wAndV, wOrV, wAndT, wOrT, wNotT, wChain, wNoPart, wPart, wSl, wGet, wYes, wN, List.getElem?_cons_zero, List.getElem?_cons_succ, List.set_cons_zero, List.set_cons_succ, List.length_cons, List.length_nil, if_true, if_false, Bool.false_eq_true, ↓reduceIte]
        refine k_at (inR _ hat) (k_last ww ?_)
        refine ⟨_, (left.filter fun j => j != at_).map (wsI ws), tlc (wsI ws at_), rfl, .inl (by rw [List.map_map]; rfl), ?_, fun w hw => ?_, ?_⟩
        · rw [List.length_map]; exact Nat.le_trans (List.length_filter_le ..) ll
        · obtain ⟨j, hj, rfl⟩ := List.mem_map.mp hw
          exact okI j (List.mem_filter.mp hj).1
        · have eN : decide (From (((left.filter fun j => j != at_).map (wsI ws)).map edW) (tlc (wsI ws at_)) ∧ Conn (((left.filter fun j => j != at_).map (wsI ws)).map edW) (tlc (wsI ws at_))) = Q at_ := by
            rw [← hQ]
            have : ((left.filter fun j => j != at_).map (wsI ws)).map edW = (left.erase at_).map (edI ws) := by
              rw [List.map_map, nd.erase_eq_filter]; rfl
            rw [this]
            exact decide_eq_decide.mpr ⟨fun z => ⟨h1, z⟩, fun z => z.2⟩
          rw [eN]
          cases e : Q at_ with
          | false => exact skip e
          | true =>
            simp only [wSeqS, wNext, wSet, wDrop, wRet, wRetV, wRetN, wIfS, wPar, wPar3, wAsg, wUnp2, wVar, wHv, wC, wB, wU, wNil, wCons, wL, wImm, wTup, wLst, wIf, asB, wTB, wAndV, wOrV, wAndT, wOrT, wNotT, wChain, wNoPart, wPart, wSl, wGet, wYes, wN, List.getElem?_cons_zero, List.getElem?_cons_succ, List.set_cons_zero, List.set_cons_succ, List.length_cons, List.length_nil, if_true, if_false, Bool.false_eq_true, ↓reduceIte, wApp, ownL]
            refine ⟨rfl, by rw [List.length_map]; exact small1000 (Nat.le_trans (List.length_filter_le ..) (by rw [List.length_take]; omega)), ?_⟩
            refine hnx _ ⟨some (Nn at_), p6, some (.lst ((left.filter fun j => j != at_).map fun j => T (wsI ws j))), ?_⟩
            rw [tk, e, if_pos rfl, List.map_append]
            rfl
      · rw [decide_eq_false h1]
        have e : Q at_ = false := by rw [← hQ]; exact decide_eq_false fun z => h1 z.1
        exact skip e
    · obtain ⟨p5, p6, p7, rfl⟩ := p
      rw [Nat.zero_add, List.take_length]
      have hlk : lcks [.bor (.tup z (ws.map T)), .lck v (.lst (left.map Nn)), .own (.tup false (found.map Nn)), .own (ltD lt), .own (.lst ((left.filter Q).map Nn)), fr p5, fr p6, fr p7] = lcks [.bor (.tup z (ws.map T)), .lck v (.lst (left.map Nn)), .own (.tup false (found.map Nn)), .own (ltD lt), .own (.lst []), fr o5, fr o6, fr o7] := by
        simp only [lcks_fr, lcks_own, lcks_bor, lcks_lck, lcks_nil]
      refine ⟨hlk, hlk, ?_⟩
      simp only [wSeqS, wNext, wSet, wDrop, wRet, wRetV, wRetN, wIfS, wPar, wPar3, wAsg, wUnp2, wVar, wHv, wC, wB, wU, wNil, wCons, wL, wImm, wTup, wLst, wIf, asB, wTB, wAndV, wOrV, wAndT, wOrT, wNotT, wChain, wNoPart, wPart, wSl, wGet, wYes, wN, List.getElem?_cons_zero, List.getElem?_cons_succ, List.set_cons_zero, List.set_cons_succ, List.length_cons, List.length_nil, if_true, if_false, Bool.false_eq_true, ↓reduceIte, kLen, List.length_map]
      refine k_eq_int ?_
      have next : ∀ c, WayF (edI ws) left c → (lt = none ∨ lt = some c) → left.filter Q ≠ [] := fun c hc hl e => by
        obtain ⟨k, hk, h1, h2⟩ := way_next hc e0
        have : k ∈ left.filter Q := List.mem_filter.mpr ⟨hk, by
          rw [← hQ]
          refine decide_eq_true ⟨?_, h2⟩
          rcases hl with h | h
          · exact .inl h
          · exact .inr (by rw [h, ← h1])⟩
        rw [e] at this; cases this
      cases es : left.filter Q with
      | nil =>
        simp only [List.length_nil, wSeqS, wNext, wSet, wDrop, wRet, wRetV, wRetN, wIfS, wPar, wPar3, wAsg, wUnp2, wVar, wHv, wC, wB, wU, wNil, wCons, wL, wImm, wTup, wLst, wIf, asB, wTB, wAndV, wOrV, wAndT, wOrT, wNotT, wChain, wNoPart, wPart, wSl, wGet, wYes, wN, List.getElem?_cons_zero, List.getElem?_cons_succ, List.set_cons_zero, List.set_cons_succ, List.length_cons, List.length_nil, if_true, if_false, Bool.false_eq_true, ↓reduceIte]
        refine hno fun ⟨x, hx1, hx2⟩ => ?_
        rcases inv with ⟨rfl, rfl, rfl⟩ | ⟨x', c, rfl, ne, t, wf, _⟩
        · refine next x ⟨?_, ?_⟩ (.inl rfl) es
          · rw [range_ed]; exact hx1
          · rw [range_ed]; exact hx2
        · exact next c wf (.inr rfl) es
      | cons k rest =>
        have hk : k ∈ left ∧ Q k = true := List.mem_filter.mp (by rw [es]; simp)
        have wk := okI k hk.1
        have qk : (lt = none ∨ lt = some (hdc (wsI ws k))) ∧ Next (edI ws) left k := by
          have := hk.2
          rw [← hQ] at this
          exact of_decide_eq_true this
        rw [decide_eq_false (show ¬ (((k :: rest).length : Nat) : Int) = 0 by rw [List.length_cons]; omega)]
        simp only [wSeqS, wNext, wSet, wDrop, wRet, wRetV, wRetN, wIfS, wPar, wPar3, wAsg, wUnp2, wVar, wHv, wC, wB, wU, wNil, wCons, wL, wImm, wTup, wLst, wIf, asB, wTB, wAndV, wOrV, wAndT, wOrT, wNotT, wChain, wNoPart, wPart, wSl, wGet, wYes, wN, List.getElem?_cons_zero, List.getElem?_cons_succ, List.set_cons_zero, List.set_cons_succ, List.length_cons, List.length_nil, if_true, if_false, Bool.false_eq_true, ↓reduceIte, wRem, ownL]
        have first : ∀ K : D → Prop, K (Nn k) → kIx (.lst ((k :: rest).map Nn)) (N 0) K := fun K hK => by
          unfold kIx kIxO
          have : atI ((k :: rest).map Nn) 0 = some (Nn k) := atI_nat (j := 0) rfl
          simp only [this]
          exact hK
        refine first _ ⟨rfl, by decide, ?_⟩
        refine ⟨imm_Nn found, rfl, ?_, ?_⟩
        · rw [List.length_map]
          have := pm.length_eq
          rw [List.length_append, List.length_range] at this
          exact Nat.le_of_lt (small1000 (by simp; omega))
        refine first _ (k_at (inR k hk.1) ?_)
        simp only [kNeg]
        refine k_last wk ⟨rfl, (by decide : (2 : Nat) < 8), (by decide : (3 : Nat) < 8), ?_⟩
        refine first _ ?_
        simp only [intsOf_nat]
        refine ⟨List.mem_map.mpr ⟨k, hk.1, rfl⟩, ?_⟩
        rw [erase_cast]
        refine ⟨(left.erase k).length, ?_, left.erase k, found ++ [k], some (tlc (wsI ws k)), some (.lst ((k :: rest).map Nn)), p5, p6, p7, ?_, ?_, ?_, rfl⟩
        · rw [List.length_erase_of_mem hk.1]
          have := List.length_pos_iff.mpr e0
          omega
        · rw [List.map_append, List.map_map]
          rfl
        · rw [List.append_assoc]
          exact ((List.perm_cons_erase hk.1).symm.append_left found).trans pm
        · rcases inv with ⟨rfl, rfl, rfl⟩ | ⟨x, c, rfl, ne, t, wf, lst⟩
          · refine .inr ⟨hdc (wsI ws k), _, rfl, by simp, ⟨rfl, rfl⟩, qk.2, fun k' hk' j hj nx => ?_⟩
            have ek : k' = k := by simpa using hk'.symm
            subst ek
            have := filter_least es j hj
            rw [← hQ] at this
            exact of_decide_eq_false this ⟨.inl rfl, nx⟩
          · have hc : hdc (wsI ws k) = c := by
              rcases qk.1 with h | h
              · cases h
              · exact (Option.some.inj h).symm
            refine .inr ⟨x, _, rfl, by simp, trail_snoc t hc, qk.2, fun k' hk' => lst k' ?_⟩
            cases found with
            | nil => exact absurd rfl ne
            | cons a r => exact hk'
end K20

namespace K20
open PySem PySem.Spec PyProof.Rows L2 PL
/-! ### bar -/
theorem way_iff {e : Edge} {E : List Edge} : Way (e :: E) ↔ Even (e :: E) ∧ Conn (e :: E) e.1 := by
  constructor
  · rintro ⟨x, h1, h2⟩
    refine ⟨⟨x, h1⟩, fun f hf => ?_⟩
    exact (h2 e (by simp)).symm.trans (h2 f hf)
  · rintro ⟨⟨x, y, hy⟩, hc⟩
    by_cases h : x = y
    · subst h
      exact ⟨e.1, ⟨e.1, fun u => by rw [hy u]; omega⟩, hc⟩
    · -- something begins at x
      have bx : bal (e :: E) x = 1 := by rw [hy x, dl_self, dl_ne (Ne.symm h)]; rfl
      have : ∃ f ∈ e :: E, f.1 = x := by
        refine Classical.byContradiction fun n => ?_
        have := bal_le (ed := fun f : Edge => f) (z := x) (R := e :: E) fun f hf z => n ⟨f, hf, z⟩
        rw [List.map_id'] at this
        omega
      obtain ⟨f, hf, rfl⟩ := this
      exact ⟨f.1, ⟨y, hy⟩, fun g hg => (hc f hf).symm.trans (hc g hg)⟩
theorem strsOf_map (ws : List Str) : strsOf (ws.map T) = some ws := by
  induction ws with
  | nil => rfl
  | cons w ws ih => rw [List.map_cons, strsOf, ih]
theorem joinL_one : ∀ l : List Nat, TL.joinL [] (l.map fun c => [c]) = l
  | [] => rfl
  | [c] => rfl
  | c :: d :: l => by
    have := joinL_one (d :: l)
    show [c] ++ ([] ++ TL.joinL [] ((d :: l).map fun c => [c])) = _
    rw [this]; rfl
theorem str_ext {x y : Str} (h : x.cps.toList = y.cps.toList) : x = y := by
  obtain ⟨a⟩ := x
  obtain ⟨b⟩ := y
  have : a = b := Array.toList_inj.mp h
  rw [this]
theorem join_signs (l : List Nat) : Txt.join (Str.ofString "") (l.map sgn) = ⟨l.toArray⟩ := by
  apply str_ext
  have h := TL.tl_join (Str.ofString "") (l.map sgn)
  rw [TL.join_eq]
  have e : (l.map sgn).map TL.tl = l.map fun c => [c] := by rw [List.map_map]; rfl
  have e2 : TL.tl (Str.ofString "") = [] := by decide
  rw [e, e2, joinL_one] at h
  exact h
theorem letters_list : lettersS.cps.toList = (List.range 26).map (97 + ·) := by decide +kernel
theorem sum_ones (l : List Nat) : ((l.map sgn).map (·.length)).sum = l.length := by
  induction l with
  | nil => rfl
  | cons c l ih => rw [List.map_cons, List.map_cons, List.sum_cons, ih, List.length_cons]; show 1 + l.length = _; omega
theorem k_join_signs {l : List Nat} {R : D → Prop} (hl : l.length ≤ 1000) (h : R (T ⟨l.toArray⟩)) : kJoin (T (Str.ofString "")) [.lst ((l.map sgn).map T)] R := by
  unfold kJoin
  simp only [strsOf_map]
  refine ⟨?_, by rw [join_signs]; exact h⟩
  rw [sum_ones, List.length_map]
  show l.length + l.length * 0 ≤ _
  omega
open Classical in
theorem l_bar : ∀ ds R, g_bar ds R → w_bar { nx := fun _ => R (.v .non), rt := R } (startR ["book", "letter", "some"] ds) := by
  rintro ds R ⟨z, w, ws, rfl, hb, hway, hodd, hap⟩
  have hn := hb.1
  change w_bar _ [.bor (.tup z ((w :: ws).map T)), .no, .no]
  generalize hW : w :: ws = W at *
  have hpos : 0 < W.length := by rw [← hW]; simp
  have hdW : wordsD W (.tup z (W.map T)) := .inr ⟨z, rfl⟩
  simp only [w_bar, wSeqS, wNext, wSet, wDrop, wRet, wRetV, wRetN, wIfS, wPar, wPar3, wAsg, wUnp2, wVar, wHv, wC, wB, wU, wNil, wCons, wL, wImm, wTup, wLst, wIf, asB, wTB, wAndV, wOrV, wAndT, wOrT, wNotT, wChain, wNoPart, wPart, wSl, wGet, wYes, wN, List.getElem?_cons_zero, List.getElem?_cons_succ, List.set_cons_zero, List.set_cons_succ, List.length_cons, List.length_nil, if_true, if_false, Bool.false_eq_true, ↓reduceIte]
  refine ⟨z, W, rfl, hb, ?_⟩
  simp only [kLen, List.length_map]
  refine k_eq_int ?_
  rw [decide_eq_false (show ¬ (W.length : Int) = 0 by omega)]
  simp only [wSeqS, wNext, wSet, wDrop, wRet, wRetV, wRetN, wIfS, wPar, wPar3, wAsg, wUnp2, wVar, wHv, wC, wB, wU, wNil, wCons, wL, wImm, wTup, wLst, wIf, asB, wTB, wAndV, wOrV, wAndT, wOrT, wNotT, wChain, wNoPart, wPart, wSl, wGet, wYes, wN, List.getElem?_cons_zero, List.getElem?_cons_succ, List.set_cons_zero, List.set_cons_succ, List.length_cons, List.length_nil, if_true, if_false, Bool.false_eq_true, ↓reduceIte]
  refine ⟨_, W, rfl, hdW, hn, hb.2.1, ?_⟩
  by_cases he : Even (W.map edW)
  · rw [decide_eq_true he]
    simp only [wSeqS, wNext, wSet, wDrop, wRet, wRetV, wRetN, wIfS, wPar, wPar3, wAsg, wUnp2, wVar, wHv, wC, wB, wU, wNil, wCons, wL, wImm, wTup, wLst, wIf, asB, wTB, wAndV, wOrV, wAndT, wOrT, wNotT, wChain, wNoPart, wPart, wSl, wGet, wYes, wN, List.getElem?_cons_zero, List.getElem?_cons_succ, List.set_cons_zero, List.set_cons_succ, List.length_cons, List.length_nil, if_true, if_false, Bool.false_eq_true, ↓reduceIte, Bool.not_true]
    have ww : Wd w := hb.2.1 w (by rw [← hW]; simp)
    have e0 : wsI W 0 = w := by rw [← hW]; rfl
    refine k_at (ws := W) (i := 0) hpos ?_
    rw [e0]
    refine k_first ww ?_
    refine ⟨_, W, hdc w, rfl, hdW, hn, hb.2.1, (by decide : (2 : Nat) < 3), ?_⟩
    simp only [wSeqS, wNext, wSet, wDrop, wRet, wRetV, wRetN, wIfS, wPar, wPar3, wAsg, wUnp2, wVar, wHv, wC, wB, wU, wNil, wCons, wL, wImm, wTup, wLst, wIf, asB, wTB, wAndV, wOrV, wAndT, wOrT, wNotT, wChain, wNoPart, wPart, wSl, wGet, wYes, wN, List.getElem?_cons_zero, List.getElem?_cons_succ, List.set_cons_zero, List.set_cons_succ, List.length_cons, List.length_nil, if_true, if_false, Bool.false_eq_true, ↓reduceIte, kLen, List.length_map]
    refine k_eq_int ?_
    by_cases hc : (hangs W (hdc w)).length = W.length
    · rw [decide_eq_true (show ((hangs W (hdc w)).length : Int) = (W.length : Int) by omega)]
      refine hway ?_
      have := way_iff (e := edW w) (E := ws.map edW)
      rw [← List.map_cons, hW] at this
      exact this.mpr ⟨he, hangs_all.mp hc⟩
    · rw [decide_eq_false (show ¬ ((hangs W (hdc w)).length : Int) = (W.length : Int) by omega)]
      simp only [wSeqS, wNext, wSet, wDrop, wRet, wRetV, wRetN, wIfS, wPar, wPar3, wAsg, wUnp2, wVar, wHv, wC, wB, wU, wNil, wCons, wL, wImm, wTup, wLst, wIf, asB, wTB, wAndV, wOrV, wAndT, wOrT, wNotT, wChain, wNoPart, wPart, wSl, wGet, wYes, wN, List.getElem?_cons_zero, List.getElem?_cons_succ, List.set_cons_zero, List.set_cons_succ, List.length_cons, List.length_nil, if_true, if_false, Bool.false_eq_true, ↓reduceIte]
      refine ⟨imm_Nn _, by decide, ?_⟩
      refine hap he fun hw => hc ?_
      have := way_iff (e := edW w) (E := ws.map edW)
      rw [← List.map_cons, hW] at this
      exact hangs_all.mpr (this.mp hw).2
  · rw [decide_eq_false he]
    simp only [wSeqS, wNext, wSet, wDrop, wRet, wRetV, wRetN, wIfS, wPar, wPar3, wAsg, wUnp2, wVar, wHv, wC, wB, wU, wNil, wCons, wL, wImm, wTup, wLst, wIf, asB, wTB, wAndV, wOrV, wAndT, wOrT, wNotT, wChain, wNoPart, wPart, wSl, wGet, wYes, wN, List.getElem?_cons_zero, List.getElem?_cons_succ, List.set_cons_zero, List.set_cons_succ, List.length_cons, List.length_nil, if_true, if_false, Bool.false_eq_true, ↓reduceIte, Bool.not_false, wM]
    refine ⟨rfl, ?_⟩
    simp only [wSeqS, wNext, wSet, wDrop, wRet, wRetV, wRetN, wIfS, wPar, wPar3, wAsg, wUnp2, wVar, wHv, wC, wB, wU, wNil, wCons, wL, wImm, wTup, wLst, wIf, asB, wTB, wAndV, wOrV, wAndT, wOrT, wNotT, wChain, wNoPart, wPart, wSl, wGet, wYes, wN, List.getElem?_cons_zero, List.getElem?_cons_succ, List.set_cons_zero, List.set_cons_succ, List.length_cons, List.length_nil, if_true, if_false, Bool.false_eq_true, ↓reduceIte, wLc, wLcK, wDc, wDcK, wZip, wSeq, wEnum, wRng1, wRng2, borAll, wipeR, Sl.toBor, List.map_cons, List.map_nil, seqOf]
    have im : immL (PL.signs lettersS) = true := immL_map _ (fun _ => rfl) _
    refine ⟨im, ?_⟩
    show lcW _ _ _ _ (PL.signs lettersS) [] _
    rw [signs_map]
    refine lcW_of (fun c => T (sgn c)) (fun c => if decide (bal (W.map edW) c ≠ 0) = true then some (T (sgn c)) else none) lettersS.cps.toList [] (fun c hc K hK => ?_) (by rw [letters_list]; decide) ?_
    · refine ⟨(by decide : (1 : Nat) < 3), ?_⟩
      simp only [wSeqS, wNext, wSet, wDrop, wRet, wRetV, wRetN, wIfS, wPar, wPar3, wAsg, wUnp2, wVar, wHv, wC, wB, wU, wNil, wCons, wL, wImm, wTup, wLst, wIf, asB, wTB, wAndV, wOrV, wAndT, wOrT, wNotT, wChain, wNoPart, wPart, wSl, wGet, wYes, wN, List.getElem?_cons_zero, List.getElem?_cons_succ, List.set_cons_zero, List.set_cons_succ, List.length_cons, List.length_nil, if_true, if_false, Bool.false_eq_true, ↓reduceIte]
      refine ⟨_, W, rfl, hdW, hn, hb.2.1, fun L o => ?_⟩
      have e : kInB (T (sgn c)) (.dic (L.map fun c => .inr (sgn c)) (L.map fun c => N (bal (W.map edW) c))) = some (decide (c ∈ L)) := by
        show some (memK (L.map kk) (kk c)) = _
        rw [memK_map kk kk_inj c L]
      unfold kIn
      simp only [e]
      have e2 : decide (c ∈ L) = decide (bal (W.map edW) c ≠ 0) := decide_eq_decide.mpr (o.2 c)
      rw [e2]
      cases h : decide (bal (W.map edW) c ≠ 0) with
      | true => rw [h, if_pos rfl] at hK; exact ⟨rfl, hK⟩
      | false => rw [h, if_neg Bool.false_ne_true] at hK; exact hK
    · rw [filter_fm, List.nil_append]
      have e3 : (lettersS.cps.toList.filter fun c => decide (bal (W.map edW) c ≠ 0)).map (fun c => T (sgn c)) = ((lettersS.cps.toList.filter fun c => decide (bal (W.map edW) c ≠ 0)).map sgn).map T := by rw [List.map_map]; rfl
      rw [e3]
      refine k_join_signs (Nat.le_trans (List.length_filter_le ..) (by rw [letters_list]; decide)) ?_
      refine ⟨by decide, ?_⟩
      rw [letters_list]
      exact hodd he
end K20

namespace K20
open PySem PySem.Spec PyProof.Rows L2 PL
/-! ### the law's draws -/
theorem at_in {α : Type} {l : List α} {d : Int} (h0 : 0 ≤ d) (h1 : d < l.length) : ∃ x, atI l d = some x ∧ x ∈ l := by
  obtain ⟨j, rfl⟩ := Int.eq_ofNat_of_zero_le h0
  have hj : j < l.length := by omega
  exact ⟨l[j], atI_nat (List.getElem?_eq_getElem hj), List.getElem_mem hj⟩
theorem imm_mem : ∀ {l : List D}, immL l = true → ∀ d ∈ l, d.imm = true
  | d :: l, h, x, hx => by
    have h' : (d.imm && immL l) = true := h
    rw [Bool.and_eq_true] at h'
    rcases List.mem_cons.mp hx with rfl | hx
    · exact h'.1
    · exact imm_mem h'.2 x hx
theorem l__law_any : ∀ ds R, g__law_any ds R → w__law_any { nx := fun _ => R (.v .non), rt := R } (startR ["hand", "some"] ds) := by
  rintro ds R ⟨d, rfl, ⟨l, rfl, im, h0, hl, h⟩ | ⟨z, rfl, h0, hl, h⟩⟩
  · change w__law_any _ [.bor .hand, .bor (.lst l)]
    simp only [w__law_any, wSeqS, wNext, wSet, wDrop, wRet, wRetV, wRetN, wIfS, wPar, wPar3, wAsg, wUnp2, wVar, wHv, wC, wB, wU, wNil, wCons, wL, wImm, wTup, wLst, wIf, asB, wTB, wAndV, wOrV, wAndT, wOrT, wNotT, wChain, wNoPart, wPart, wSl, wGet, wYes, wN, List.getElem?_cons_zero, List.getElem?_cons_succ, List.set_cons_zero, List.set_cons_succ, List.length_cons, List.length_nil, if_true, if_false, Bool.false_eq_true, ↓reduceIte, kLen]
    refine ⟨_, rfl, by omega, by omega, fun i i0 i1 => ?_⟩
    obtain ⟨x, ex, hx⟩ := at_in i0 i1
    unfold kIx kIxO
    simp only [ex]
    exact ⟨imm_mem im x hx, h x hx⟩
  · change w__law_any _ [.bor .hand, .bor (T z)]
    simp only [w__law_any, wSeqS, wNext, wSet, wDrop, wRet, wRetV, wRetN, wIfS, wPar, wPar3, wAsg, wUnp2, wVar, wHv, wC, wB, wU, wNil, wCons, wL, wImm, wTup, wLst, wIf, asB, wTB, wAndV, wOrV, wAndT, wOrT, wNotT, wChain, wNoPart, wPart, wSl, wGet, wYes, wN, List.getElem?_cons_zero, List.getElem?_cons_succ, List.set_cons_zero, List.set_cons_succ, List.length_cons, List.length_nil, if_true, if_false, Bool.false_eq_true, ↓reduceIte]
    refine k_len_txt (w := z) (by omega) ?_
    refine ⟨_, rfl, by omega, by omega, fun i i0 i1 => ?_⟩
    obtain ⟨c, ec, hc⟩ := at_in (l := z.cps.toList) i0 (by rw [Array.length_toList]; exact i1)
    unfold kIx kIxO
    simp only [if_pos (Nat.le_of_lt (small1000 (show z.length ≤ 1000 by omega))), ec, Option.map_some]
    exact ⟨rfl, h c hc⟩
theorem imm_app {a b : List D} : immL (a ++ b) = (immL a && immL b) := by
  induction a with
  | nil => rfl
  | cons d a ih => show (d.imm && immL (a ++ b)) = ((d.imm && immL a) && immL b); rw [ih, Bool.and_assoc]
theorem imm_of {l : List D} (h : ∀ d ∈ l, d.imm = true) : immL l = true := by
  induction l with
  | nil => rfl
  | cons d l ih => show (d.imm && immL l) = true; rw [h d (by simp), ih fun e he => h e (by simp [he])]; rfl
theorem erase_perm {α : Type} : ∀ {l : List α} {i : Nat} (h : i < l.length), (l[i] :: l.eraseIdx i).Perm l
  | a :: l, 0, _ => List.Perm.refl _
  | a :: l, i + 1, h => by
    have ih := erase_perm (l := l) (i := i) (by simpa using h)
    show (l[i]'(by simpa using h) :: a :: l.eraseIdx i).Perm (a :: l)
    exact (List.Perm.swap ..).trans (ih.cons a)
theorem l__law_mixed : ∀ ds R, g__law_mixed ds R → w__law_mixed { nx := fun _ => R (.v .non), rt := R } (startR ["hand", "some", "left", "found"] ds) := by
  rintro ds R ⟨l, rfl, im, hl, h⟩
  change w__law_mixed _ [.bor .hand, .bor (.lst l), .no, .no]
  simp only [w__law_mixed, wSeqS, wNext, wSet, wDrop, wRet, wRetV, wRetN, wIfS, wPar, wPar3, wAsg, wUnp2, wVar, wHv, wC, wB, wU, wNil, wCons, wL, wImm, wTup, wLst, wIf, asB, wTB, wAndV, wOrV, wAndT, wOrT, wNotT, wChain, wNoPart, wPart, wSl, wGet, wYes, wN, List.getElem?_cons_zero, List.getElem?_cons_succ, List.set_cons_zero, List.set_cons_succ, List.length_cons, List.length_nil, if_true, if_false, Bool.false_eq_true, ↓reduceIte]
  refine ⟨im, Nat.le_of_lt (small1000 (by omega)), by decide, (by decide : (2 : Nat) < 4), (by decide : (3 : Nat) < 4), ?_⟩
  refine ⟨fun m ρ => ∃ left found, ρ = [.bor .hand, .bor (.lst l), .own (.lst left), .own (.lst found)] ∧ (found ++ left).Perm l ∧ m = left.length, ⟨_, l, [], rfl, List.Perm.refl _, rfl⟩, ?_⟩
  rintro m ρ ⟨left, found, rfl, pm, rfl⟩
  have le := pm.length_eq
  rw [List.length_append] at le
  have iml : immL left = true := imm_of fun d hd => imm_mem im d (pm.mem_iff.mp (by simp [hd]))
  simp only [wSeqS, wNext, wSet, wDrop, wRet, wRetV, wRetN, wIfS, wPar, wPar3, wAsg, wUnp2, wVar, wHv, wC, wB, wU, wNil, wCons, wL, wImm, wTup, wLst, wIf, asB, wTB, wAndV, wOrV, wAndT, wOrT, wNotT, wChain, wNoPart, wPart, wSl, wGet, wYes, wN, List.getElem?_cons_zero, List.getElem?_cons_succ, List.set_cons_zero, List.set_cons_succ, List.length_cons, List.length_nil, if_true, if_false, Bool.false_eq_true, ↓reduceIte, kLen, kGt]
  by_cases e : left = []
  · subst e
    simp only [List.length_nil]
    rw [List.append_nil] at pm
    exact h _ pm
  · have hp := List.length_pos_iff.mpr e
    rw [decide_eq_true (show (0 : Int) < (left.length : Int) by omega)]
    simp only [wSeqS, wNext, wSet, wDrop, wRet, wRetV, wRetN, wIfS, wPar, wPar3, wAsg, wUnp2, wVar, wHv, wC, wB, wU, wNil, wCons, wL, wImm, wTup, wLst, wIf, asB, wTB, wAndV, wOrV, wAndT, wOrT, wNotT, wChain, wNoPart, wPart, wSl, wGet, wYes, wN, List.getElem?_cons_zero, List.getElem?_cons_succ, List.set_cons_zero, List.set_cons_succ, List.length_cons, List.length_nil, if_true, if_false, Bool.false_eq_true, ↓reduceIte, wAppPop, ownL, kLen]
    refine ⟨by decide, ?_⟩
    refine ⟨_, rfl, by omega, by omega, fun d d0 d1 => ?_⟩
    obtain ⟨j, rfl⟩ := Int.eq_ofNat_of_zero_le d0
    have hj : j < left.length := by omega
    have es : seqIndex? (j : Int) left.length = some j := by
      rw [seqIndex_of d0 (by omega)]; simp
    refine ⟨by omega, by omega, iml, small1000 (by omega), ?_⟩
    simp only [es, List.getElem?_eq_getElem hj]
    refine ⟨(left.eraseIdx j).length, by rw [List.length_eraseIdx_of_lt hj]; omega, left.eraseIdx j, found ++ [left[j]], rfl, ?_, rfl⟩
    rw [List.append_assoc]
    exact ((erase_perm hj).append_left found).trans pm
theorem as_signs {A : List Nat} : ∀ {l : List Str}, (∀ w ∈ l, ∃ c ∈ A, w = sgn c) → ∃ cs : List Nat, l = cs.map sgn ∧ ∀ c ∈ cs, c ∈ A
  | [], _ => ⟨[], rfl, fun c hc => nomatch hc⟩
  | w :: l, h => by
    obtain ⟨c, hc, rfl⟩ := h w (by simp)
    obtain ⟨cs, rfl, h2⟩ := as_signs (l := l) fun v hv => h v (by simp [hv])
    exact ⟨c :: cs, rfl, fun d hd => by rcases List.mem_cons.mp hd with rfl | hd; exact hc; exact h2 d hd⟩
theorem as_texts {A : List Nat} : ∀ {l : List D}, (∀ d ∈ l, ∃ c ∈ A, d = T (sgn c)) → ∃ cs : List Nat, l = (cs.map sgn).map T ∧ ∀ c ∈ cs, c ∈ A
  | [], _ => ⟨[], rfl, fun c hc => nomatch hc⟩
  | w :: l, h => by
    obtain ⟨c, hc, rfl⟩ := h w (by simp)
    obtain ⟨cs, rfl, h2⟩ := as_texts (l := l) fun v hv => h v (by simp [hv])
    exact ⟨c :: cs, rfl, fun d hd => by rcases List.mem_cons.mp hd with rfl | hd; exact hc; exact h2 d hd⟩
theorem letters_low {c : Nat} (h : c ∈ lettersS.cps.toList) : 97 ≤ c ∧ c ≤ 122 := by
  rw [letters_list] at h
  obtain ⟨i, hi, rfl⟩ := List.mem_map.mp h
  rw [List.mem_range] at hi
  show 97 ≤ 97 + i ∧ 97 + i ≤ 122
  omega
theorem cut_front {α : Type} (xs : List α) (n : Nat) : cutL xs none (some (n : Int)) = xs.take n := by
  unfold cutL
  rw [HT.sIx_none, HT.sIx_nat, List.drop_zero, Nat.sub_zero]
  by_cases h : n ≤ xs.length
  · rw [Nat.min_eq_left h]
  · rw [Nat.min_eq_right (by omega), List.take_length, List.take_of_length_le (by omega)]
theorem l__law_letters : ∀ ds R, g__law_letters ds R → w__law_letters { nx := fun _ => R (.v .non), rt := R } (startR ["hand", "many"] ds) := by
  rintro ds R ⟨n, rfl, n1, n2, h⟩
  change w__law_letters _ [.bor .hand, .bor (Nn n)]
  simp only [w__law_letters, wSeqS, wNext, wSet, wDrop, wRet, wRetV, wRetN, wIfS, wPar, wPar3, wAsg, wUnp2, wVar, wHv, wC, wB, wU, wNil, wCons, wL, wImm, wTup, wLst, wIf, asB, wTB, wAndV, wOrV, wAndT, wOrT, wNotT, wChain, wNoPart, wPart, wSl, wGet, wYes, wN, List.getElem?_cons_zero, List.getElem?_cons_succ, List.set_cons_zero, List.set_cons_succ, List.length_cons, List.length_nil, if_true, if_false, Bool.false_eq_true, ↓reduceIte, wM]
  refine ⟨rfl, ?_⟩
  have im : immL (PL.signs lettersS) = true := immL_map _ (fun _ => rfl) _
  have ln : (PL.signs lettersS).length = 26 := by rw [signs_map, List.length_map, letters_list]; rfl
  refine ⟨im, (by rw [show (PL.signs (Str.ofString "abcdefghijklmnopqrstuvwxyz")).length = 26 from ln]; decide), ?_⟩
  refine ⟨PL.signs lettersS, rfl, im, by rw [ln]; decide, fun l' pm => ?_⟩
  obtain ⟨cs, rfl, hcs⟩ := as_texts (A := lettersS.cps.toList) (l := l') fun d hd => by
    have := pm.mem_iff.mp hd
    rw [signs_map] at this
    obtain ⟨c, hc, rfl⟩ := List.mem_map.mp this
    exact ⟨c, hc, rfl⟩
  have lc : cs.length = 26 := by
    have := pm.length_eq
    rw [ln, List.length_map, List.length_map] at this
    exact this
  refine ⟨imm_T _, ?_⟩
  rw [cut_front, ← List.map_take, ← List.map_take]
  have okc : ∀ c ∈ cs.take n, 97 ≤ c ∧ c ≤ 122 := fun c hc => letters_low (hcs c (List.mem_of_mem_take hc))
  refine k_sorted_strs (ws := (cs.take n).map sgn) rfl (by rw [List.length_map, List.length_take]; omega) (fun w hw => ?_) ?_
  · obtain ⟨c, hc, rfl⟩ := List.mem_map.mp hw
    exact ok_of_low (low_sgn (okc c hc))
  obtain ⟨es, ee, hes⟩ := as_signs (A := cs.take n) (l := ((cs.take n).map sgn).mergeSort fun a b => !strLt b a) fun w hw => by
    have := (List.mergeSort_perm ..).mem_iff.mp hw
    obtain ⟨c, hc, rfl⟩ := List.mem_map.mp this
    exact ⟨c, hc, rfl⟩
  have le : es.length = n := by
    have := congrArg List.length ee
    rw [List.length_mergeSort, List.length_map, List.length_map, List.length_take] at this
    omega
  rw [ee]
  refine k_join_signs (by omega) (h _ (fun c hc => okc c (hes c (by simpa using hc))) ?_)
  show es.toArray.size = n
  rw [List.size_toArray]; exact le
end K20

namespace K20
open PySem PySem.Spec PyProof.Rows L2 PL
/-! ### _law_walk -/
abbrev ks (w : Str) : Key := .inr w
theorem ks_inj : ∀ a b, ks a = ks b → a = b := fun a b h => by injection h
abbrev wkD (L : List Str) : D := .dic (L.map ks) (L.map fun _ => B true)
theorem wk_notIn {L : List Str} {w : Str} {R : D → Prop} (h : R (B (!decide (w ∈ L)))) : kNotIn (T w) (wkD L) R := by
  unfold kNotIn
  have e : kInB (T w) (wkD L) = some (decide (w ∈ L)) := by
    show some (memK (L.map ks) (ks w)) = _
    rw [memK_map ks ks_inj w L]
  simp only [e]
  exact h
theorem wk_store {L : List Str} (nd : L.Nodup) (hl : L.length ≤ 500) {w : Str} (hw : w ∉ L) {R : D → Prop} (h : R (wkD (L ++ [w]))) : storeD (wkD L) (T w) (B true) R := by
  show (L.map ks).length < sizeLine ∧ R (.dic (putD (L.map ks) (L.map fun _ => B true) (ks w) (B true)).1 (putD (L.map ks) (L.map fun _ => B true) (ks w) (B true)).2)
  refine ⟨by rw [List.length_map]; exact small1000 (by omega), ?_⟩
  rw [putD_map ks ks_inj (fun _ => B true) w (B true) L nd, if_neg hw]
  have e : (fun x : Str => if x = w then B true else B true) = fun _ => B true := by funext x; split <;> rfl
  rw [e]
  exact h
theorem low_app {a b : Str} (ha : Low a) (hb : Low b) : Low (a ++ b) := fun c hc => by
  have e : (a ++ b).cps.toList = a.cps.toList ++ b.cps.toList := Array.toList_append
  rw [e] at hc
  rcases List.mem_append.mp hc with q | q
  · exact ha c q
  · exact hb c q
theorem rng_items (n : Nat) : rngD 0 n = ((List.range n).map fun (i : Nat) => (i : Int)).map N := rngD0 n
theorem range_nth {n i : Nat} {a : Int} (h : ((List.range n).map fun (i : Nat) => (i : Int))[i]? = some a) : i < n ∧ a = i := by
  rw [List.getElem?_map] at h
  obtain ⟨j, hj, rfl⟩ := Option.map_eq_some_iff.mp h
  obtain ⟨h1, h2⟩ := List.getElem?_eq_some_iff.mp hj
  rw [List.getElem_range] at h2
  rw [List.length_range] at h1
  exact ⟨h1, by rw [h2]⟩
theorem l__law_walk : ∀ ds R, g__law_walk ds R → w__law_walk { nx := fun _ => R (.v .non), rt := R } (startR ["hand", "letters", "size", "some", "here", "turn", "word", "place"] ds) := by
  rintro ds R ⟨z, n, rfl, hz, z0, z1, n0, n1, h⟩
  change w__law_walk _ [.bor .hand, .bor (T z), .bor (Nn n), .no, .no, .no, .no, .no]
  simp only [w__law_walk, wSeqS, wNext, wSet, wDrop, wRet, wRetV, wRetN, wIfS, wPar, wPar3, wAsg, wUnp2, wVar, wHv, wC, wB, wU, wNil, wCons, wL, wImm, wTup, wLst, wIf, asB, wTB, wAndV, wOrV, wAndT, wOrT, wNotT, wChain, wNoPart, wPart, wSl, wGet, wYes, wN, List.getElem?_cons_zero, List.getElem?_cons_succ, List.set_cons_zero, List.set_cons_succ, List.length_cons, List.length_nil, if_true, if_false, Bool.false_eq_true, ↓reduceIte, wDic0]
  have any : ∀ K : D → Prop, (∀ c, 97 ≤ c ∧ c ≤ 122 → K (T (sgn c))) → g__law_any [.hand, T z] K := fun K hK => ⟨_, rfl, .inr ⟨z, rfl, z0, by omega, fun c hc => hK c (hz c hc)⟩⟩
  refine any _ fun c0 hc0 => ⟨(by decide : (3 : Nat) < 8), (by decide : (4 : Nat) < 8), ?_⟩
  simp only [wFor, wRng1, wSeqS, wNext, wSet, wDrop, wRet, wRetV, wRetN, wIfS, wPar, wPar3, wAsg, wUnp2, wVar, wHv, wC, wB, wU, wNil, wCons, wL, wImm, wTup, wLst, wIf, asB, wTB, wAndV, wOrV, wAndT, wOrT, wNotT, wChain, wNoPart, wPart, wSl, wGet, wYes, wN, List.getElem?_cons_zero, List.getElem?_cons_succ, List.set_cons_zero, List.set_cons_succ, List.length_cons, List.length_nil, if_true, if_false, Bool.false_eq_true, ↓reduceIte]
  refine ⟨by omega, by omega, ?_⟩
  rw [Int.toNat_natCast, rng_items]
  refine forW_by N _ (fun i ρ => ∃ (L : List Str) (c : Nat) (o5 o6 o7 : Option D), ρ = [.bor .hand, .bor (T z), .bor (Nn n), .own (wkD L), .own (T (sgn c)), fr o5, fr o6, fr o7] ∧ (97 ≤ c ∧ c ≤ 122) ∧ L.Nodup ∧ L.length ≤ i ∧ (0 < i → L ≠ []) ∧ ∀ w ∈ L, Wd w)
    0 (fun i a ρ ei p nx hnx => ?_) (fun ρ p => ?_) _ ⟨[], c0, none, none, none, rfl, hc0, List.nodup_nil, Nat.le_refl _, fun z => absurd z (by omega), fun w hw => nomatch hw⟩
  · obtain ⟨L, c, o5, o6, o7, rfl, hc, nd, hL, hne, hw⟩ := p
    obtain ⟨hi, rfl⟩ := range_nth ei
    refine ⟨(by decide : (5 : Nat) < 8), ?_⟩
    simp only [wSeqS, wNext, wSet, wDrop, wRet, wRetV, wRetN, wIfS, wPar, wPar3, wAsg, wUnp2, wVar, wHv, wC, wB, wU, wNil, wCons, wL, wImm, wTup, wLst, wIf, asB, wTB, wAndV, wOrV, wAndT, wOrT, wNotT, wChain, wNoPart, wPart, wSl, wGet, wYes, wN, List.getElem?_cons_zero, List.getElem?_cons_succ, List.set_cons_zero, List.set_cons_succ, List.length_cons, List.length_nil, if_true, if_false, Bool.false_eq_true, ↓reduceIte, kAdd]
    refine ⟨rfl, (by decide : (6 : Nat) < 8), ?_⟩
    refine ⟨_, rfl, by decide, by decide, fun d d0 d1 => ?_⟩
    simp only [kAdd]
    refine ⟨by omega, by omega, ?_⟩
    rw [rng_items]
    refine forW_by N _ (fun j ρ => ∃ (w : Str) (o7 : Option D), ρ = [.bor .hand, .bor (T z), .bor (Nn n), .own (wkD L), .own (T (sgn c)), .own (N ((i : Nat) : Int)), .own (T w), fr o7] ∧ Low w ∧ w.length = 1 + j)
      0 (fun j b ρ ej p nx2 hnx2 => ?_) (fun ρ p => ?_) _ ⟨sgn c, o7, rfl, low_sgn hc, rfl⟩
    · obtain ⟨w, o7, rfl, lw, ll⟩ := p
      have hj := (range_nth ej).1
      refine ⟨(by decide : (7 : Nat) < 8), ?_⟩
      simp only [wSeqS, wNext, wSet, wDrop, wRet, wRetV, wRetN, wIfS, wPar, wPar3, wAsg, wUnp2, wVar, wHv, wC, wB, wU, wNil, wCons, wL, wImm, wTup, wLst, wIf, asB, wTB, wAndV, wOrV, wAndT, wOrT, wNotT, wChain, wNoPart, wPart, wSl, wGet, wYes, wN, List.getElem?_cons_zero, List.getElem?_cons_succ, List.set_cons_zero, List.set_cons_succ, List.length_cons, List.length_nil, if_true, if_false, Bool.false_eq_true, ↓reduceIte]
      refine any _ fun c2 hc2 => ?_
      refine ⟨Nat.le_of_lt (small1000 ?_), (by decide : (6 : Nat) < 8), hnx2 _ ⟨w ++ sgn c2, some (N b), rfl, low_app lw (low_sgn hc2), ?_⟩⟩
      · rw [ll]; show 1 + (0 + j) + 1 ≤ 1000; omega
      · rw [Str.length_append, ll]; show 1 + (0 + j) + 1 = 1 + (0 + j + 1); omega
    · obtain ⟨w, o7, rfl, lw, ll⟩ := p
      rw [Nat.zero_add, List.length_map, List.length_range] at ll
      have wd : Wd w := ⟨by omega, by omega, lw⟩
      refine ⟨by simp only [lcks_fr, lcks_own, lcks_bor, lcks_nil], ?_⟩
      simp only [wSeqS, wNext, wSet, wDrop, wRet, wRetV, wRetN, wIfS, wPar, wPar3, wAsg, wUnp2, wVar, wHv, wC, wB, wU, wNil, wCons, wL, wImm, wTup, wLst, wIf, asB, wTB, wAndV, wOrV, wAndT, wOrT, wNotT, wChain, wNoPart, wPart, wSl, wGet, wYes, wN, List.getElem?_cons_zero, List.getElem?_cons_succ, List.set_cons_zero, List.set_cons_succ, List.length_cons, List.length_nil, if_true, if_false, Bool.false_eq_true, ↓reduceIte, wStore, ownD]
      refine wk_notIn ?_
      by_cases hm : w ∈ L
      · rw [decide_eq_true hm]
        refine hnx _ ⟨L, c, some (N ((i : Nat) : Int)), some (T w), o7, rfl, hc, nd, by omega, (fun _ e => by rw [e] at hm; cases hm), hw⟩
      · rw [decide_eq_false hm]
        simp only [wSeqS, wNext, wSet, wDrop, wRet, wRetV, wRetN, wIfS, wPar, wPar3, wAsg, wUnp2, wVar, wHv, wC, wB, wU, wNil, wCons, wL, wImm, wTup, wLst, wIf, asB, wTB, wAndV, wOrV, wAndT, wOrT, wNotT, wChain, wNoPart, wPart, wSl, wGet, wYes, wN, List.getElem?_cons_zero, List.getElem?_cons_succ, List.set_cons_zero, List.set_cons_succ, List.length_cons, List.length_nil, if_true, if_false, Bool.false_eq_true, ↓reduceIte, Bool.not_false]
        refine wk_store nd (by omega) hm ?_
        simp only [kNeg]
        refine k_last wd ⟨rfl, (by decide : (4 : Nat) < 8), hnx _ ⟨L ++ [w], tlc w, some (N ((i : Nat) : Int)), some (T w), o7, rfl, tl_low wd, ?_, by simp; omega, (fun _ e => by simp at e), fun v hv => ?_⟩⟩
        · exact List.nodup_append.mpr ⟨nd, by simp, fun x hx y hy z => hm (by rw [List.mem_singleton] at hy; rw [← hy, ← z]; exact hx)⟩
        · rcases List.mem_append.mp hv with q | q
          · exact hw v q
          · rw [List.mem_singleton] at q; rw [q]; exact wd
  · obtain ⟨L, c, o5, o6, o7, rfl, hc, nd, hL, hne, hw⟩ := p
    rw [Nat.zero_add, List.length_map, List.length_range] at hL hne
    refine ⟨by simp only [lcks_fr, lcks_own, lcks_bor, lcks_no, lcks_nil], ?_⟩
    simp only [wSeqS, wNext, wSet, wDrop, wRet, wRetV, wRetN, wIfS, wPar, wPar3, wAsg, wUnp2, wVar, wHv, wC, wB, wU, wNil, wCons, wL, wImm, wTup, wLst, wIf, asB, wTB, wAndV, wOrV, wAndT, wOrT, wNotT, wChain, wNoPart, wPart, wSl, wGet, wYes, wN, List.getElem?_cons_zero, List.getElem?_cons_succ, List.set_cons_zero, List.set_cons_succ, List.length_cons, List.length_nil, if_true, if_false, Bool.false_eq_true, ↓reduceIte, kList, gath]
    have e : (L.map ks).map keyD = L.map T := by rw [List.map_map]; rfl
    rw [e]
    exact ⟨imm_T L, by rw [List.length_map]; exact Nat.le_of_lt (small1000 (by omega)), h L (hne n0) hL hw⟩
end K20

namespace K20
open PySem PySem.Spec PyProof.Rows L2 PL
/-! ### _law_odd -/
theorem strLt_sgn (a b : Nat) : strLt (sgn a) (sgn b) = decide (a < b) := by
  show decide ([a] < [b]) = decide (a < b)
  refine decide_eq_decide.mpr ⟨fun h => ?_, fun h => ?_⟩
  · cases h with
    | rel h => exact h
    | cons h => cases h
  · exact List.Lex.rel h
theorem sort_sgn (L : List Nat) : ((L.map sgn).mergeSort fun a b => !strLt b a) = (L.mergeSort fun a b => decide (a ≤ b)).map sgn := by
  refine (List.map_mergeSort (r := fun a b => decide (a ≤ b)) (s := fun a b => !strLt b a) (f := sgn) fun a _ b _ => ?_).symm
  rw [strLt_sgn]
  by_cases h : a ≤ b
  · rw [decide_eq_true h, decide_eq_false (by omega)]; rfl
  · rw [decide_eq_false h, decide_eq_true (by omega)]; rfl
theorem natsort_le (l : List Nat) : (l.mergeSort fun a b => decide (a ≤ b)).Pairwise fun a b => a ≤ b := by
  have := List.pairwise_mergeSort (le := fun a b : Nat => decide (a ≤ b)) (fun a b c h1 h2 => decide_eq_true (Nat.le_trans (of_decide_eq_true h1) (of_decide_eq_true h2)))
    (fun a b => by
      by_cases h : a ≤ b
      · rw [decide_eq_true h]; rfl
      · rw [decide_eq_true (show b ≤ a by omega), Bool.or_true]) l
  exact this.imp fun h => of_decide_eq_true h
abbrev oddL (E : List Edge) : List Nat := ((List.range 26).map (97 + ·)).filter fun c => decide (bal E c ≠ 0)
theorem oddL_odd {ws : List Str} (hw : ∀ w ∈ ws, Wd w) : Odd (ws.map edW) (oddL (ws.map edW)) := by
  have nd : (oddL (ws.map edW)).Nodup := List.Pairwise.filter _ (show ((List.range 26).map (97 + ·)).Nodup by decide +kernel)
  refine ⟨nd, fun c => ?_⟩
  rw [List.mem_filter]
  constructor
  · exact fun z => of_decide_eq_true z.2
  · intro z
    refine ⟨?_, decide_eq_true z⟩
    refine Classical.byContradiction fun n => z ?_
    have nc : ¬ (97 ≤ c ∧ c ≤ 122) := fun q => n (List.mem_map.mpr ⟨c - 97, List.mem_range.mpr (by omega), by omega⟩)
    have zero : ∀ {E : List Edge}, (∀ e ∈ E, e.1 ≠ c ∧ e.2 ≠ c) → bal E c = 0 := by
      intro E
      induction E with
      | nil => intro _; rfl
      | cons e E ih =>
        intro h
        show dl e.1 c - dl e.2 c + bal E c = 0
        rw [dl_ne (h e (by simp)).1, dl_ne (h e (by simp)).2, ih fun f hf => h f (by simp [hf])]
        rfl
    refine zero fun e he => ?_
    obtain ⟨w, hm, rfl⟩ := List.mem_map.mp he
    exact ⟨fun q => nc (by rw [← q]; exact hd_low (hw w hm)), fun q => nc (by rw [← q]; exact tl_low (hw w hm))⟩
theorem sorted_oddL {ws : List Str} (hw : ∀ w ∈ ws, Wd w) {L : List Nat} (nd : L.Nodup) (h0 : ∀ c, c ∉ L → bal (ws.map edW) c = 0) :
    (L.mergeSort fun a b => decide (a ≤ b)).filter (fun c => decide (bal (ws.map edW) c ≠ 0)) = oddL (ws.map edW) := by
  have oo := oddL_odd hw
  refine List.Perm.eq_of_pairwise (le := fun a b => a ≤ b) (fun a b _ _ h1 h2 => Nat.le_antisymm h1 h2) ((natsort_le L).filter _) ?_ ?_
  · refine List.Pairwise.filter _ ?_
    rw [List.pairwise_map]
    exact List.pairwise_lt_range.imp fun h => by omega
  · refine (List.perm_ext_iff_of_nodup (List.Pairwise.filter _ ((List.mergeSort_perm ..).nodup_iff.mpr nd)) oo.1).mpr fun c => ?_
    rw [oo.2 c, List.mem_filter, (List.mergeSort_perm ..).mem_iff]
    constructor
    · exact fun z => of_decide_eq_true z.2
    · exact fun z => ⟨Classical.byContradiction fun m => z (h0 c m), decide_eq_true z⟩
theorem tab_store2 {L : List Nat} {f : Nat → Int} (nd : L.Nodup) (hl : L.length ≤ 500) {c : Nat} {n : Int} {R : D → Prop}
    (h : ∀ L' f', L'.Nodup → L'.length ≤ L.length + 1 → (∀ x, f' x = if x = c then n else f x) → (∀ x, x ∈ L' ↔ x ∈ L ∨ x = c) → R (tabD L' f')) : storeD (tabD L f) (T (sgn c)) (N n) R := by
  show (L.map kk).length < sizeLine ∧ R (.dic (putD (L.map kk) (L.map fun c => N (f c)) (kk c) (N n)).1 (putD (L.map kk) (L.map fun c => N (f c)) (kk c) (N n)).2)
  refine ⟨by rw [List.length_map]; exact small1000 (by omega), ?_⟩
  rw [putD_map kk kk_inj (fun c => N (f c)) c (N n) L nd]
  have e : (fun x => if x = c then N n else N (f x)) = fun x => N (if x = c then n else f x) := by
    funext x
    by_cases z : x = c
    · rw [if_pos z, if_pos z]
    · rw [if_neg z, if_neg z]
  rw [e]
  by_cases m : c ∈ L
  · rw [if_pos m]
    exact h L _ nd (by omega) (fun _ => rfl) fun x => ⟨.inl, fun z => z.elim id fun z => z ▸ m⟩
  · rw [if_neg m]
    exact h (L ++ [c]) _ (List.nodup_append.mpr ⟨nd, by simp, fun x hx y hy z => m (by rw [List.mem_singleton] at hy; rw [← hy, ← z]; exact hx)⟩) (by simp) (fun _ => rfl) fun x => by simp
theorem gaps_loop {d : D} {ws : List Str} {W : WEnds} {n3 n4 : Sl} (hl : ws.length ≤ 60) (hw : ∀ w ∈ ws, Wd w) (h3 : lcks [n3, n4] = [none, none])
    (h : ∀ x2 L, L.Nodup → L.length ≤ 120 → (∀ c, c ∉ L → bal (ws.map edW) c = 0) → (∀ c ∈ L, 97 ≤ c ∧ c ≤ 122) → lcks [.bor d, .own (tabD L (bal (ws.map edW))), x2, n3, n4] = [none, none, none, none, none] → W.nx [.bor d, .own (tabD L (bal (ws.map edW))), x2, n3, n4]) :
    forW (wN 2) (wSeqS (wStore 1 (wB kIx (wVar 2) (wC (.int 0))) (wB kAdd (wGet (wVar 1) (wB kIx (wVar 2) (wC (.int 0))) (wC (.int 0))) (wC (.int 1))))
      (wStore 1 (wB kIx (wVar 2) (wU kNeg (wC (.int 1)))) (wB kSub (wGet (wVar 1) (wB kIx (wVar 2) (wU kNeg (wC (.int 1)))) (wC (.int 0))) (wC (.int 1))))) W [none, none, none, none, none] (ws.map T) [.bor d, .own (tabD [] fun _ => 0), .no, n3, n4] := by
  have lk : ∀ {L : List Nat} {f : Nat → Int} {o : Option D}, lcks [.bor d, .own (tabD L f), fr o, n3, n4] = [none, none, none, none, none] := fun {L f o} => by
    rw [lcks_bor, lcks_own, lcks_fr, h3]
  refine forW_by (f := _) T ws (fun i ρ => ∃ o2 L f, ρ = [.bor d, .own (tabD L f), fr o2, n3, n4] ∧ L.Nodup ∧ L.length ≤ 2 * i ∧ (∀ c, f c = bal ((ws.take i).map edW) c) ∧ (∀ c, c ∉ L → f c = 0) ∧ ∀ c ∈ L, 97 ≤ c ∧ c ≤ 122) 0 (fun i w ρ ei p nx hn => ?_) (fun ρ p => ?_) _
    ⟨none, [], fun _ => 0, rfl, List.nodup_nil, Nat.le_refl _, fun c => by rw [List.take_zero]; rfl, (fun _ _ => rfl), fun c hc => nomatch hc⟩
  · obtain ⟨o2, L, f, rfl, nd, hL, hf, h0, lo⟩ := p
    have hi : i < ws.length := (List.getElem?_eq_some_iff.mp ei).1
    have ww := hw w (List.mem_of_getElem? ei)
    simp only [wSeqS, wNext, wSet, wDrop, wRet, wRetV, wRetN, wIfS, wPar, wPar3, wAsg, wUnp2, wVar, wHv, wC, wB, wU, wNil, wCons, wL, wImm, wTup, wLst, wIf, asB, wTB, wAndV, wOrV, wAndT, wOrT, wNotT, wChain, wNoPart, wPart, wSl, wGet, wYes, wN, List.getElem?_cons_zero, List.getElem?_cons_succ, List.set_cons_zero, List.set_cons_succ, List.length_cons, List.length_nil, if_true, if_false, Bool.false_eq_true, ↓reduceIte, wStore, ownD]
    refine ⟨(by decide : (2 : Nat) < 5), ?_⟩
    refine ⟨rfl, k_first ww (tab_get h0 ?_)⟩
    simp only [kAdd, ownD, wSeqS, wNext, wSet, wDrop, wRet, wRetV, wRetN, wIfS, wPar, wPar3, wAsg, wUnp2, wVar, wHv, wC, wB, wU, wNil, wCons, wL, wImm, wTup, wLst, wIf, asB, wTB, wAndV, wOrV, wAndT, wOrT, wNotT, wChain, wNoPart, wPart, wSl, wGet, wYes, wN, List.getElem?_cons_zero, List.getElem?_cons_succ, List.set_cons_zero, List.set_cons_succ, List.length_cons, List.length_nil, if_true, if_false, Bool.false_eq_true, ↓reduceIte]
    refine k_first ww (tab_store2 nd (by omega) fun L1 f1 n1 l1 e1 m1 => ?_)
    have h1 : ∀ c, c ∉ L1 → f1 c = 0 := fun c hc => by
      have := fun q => hc ((m1 c).mpr q)
      rw [e1, if_neg fun q => this (.inr q)]; exact h0 c fun q => this (.inl q)
    refine ⟨rfl, k_last ww (tab_get h1 ?_)⟩
    simp only [kNeg, kSub, ownD, wSeqS, wNext, wSet, wDrop, wRet, wRetV, wRetN, wIfS, wPar, wPar3, wAsg, wUnp2, wVar, wHv, wC, wB, wU, wNil, wCons, wL, wImm, wTup, wLst, wIf, asB, wTB, wAndV, wOrV, wAndT, wOrT, wNotT, wChain, wNoPart, wPart, wSl, wGet, wYes, wN, List.getElem?_cons_zero, List.getElem?_cons_succ, List.set_cons_zero, List.set_cons_succ, List.length_cons, List.length_nil, if_true, if_false, Bool.false_eq_true, ↓reduceIte]
    refine k_last ww (tab_store2 n1 (by omega) fun L2 f2 n2 l2 e2 m2 => ?_)
    have h2 : ∀ c, c ∉ L2 → f2 c = 0 := fun c hc => by
      have := fun q => hc ((m2 c).mpr q)
      rw [e2, if_neg fun q => this (.inr q)]; exact h1 c fun q => this (.inl q)
    have lo2 : ∀ c ∈ L2, 97 ≤ c ∧ c ≤ 122 := fun c hc => by
      rcases (m2 c).mp hc with q | rfl
      · rcases (m1 c).mp q with q | rfl
        · exact lo c q
        · exact hd_low ww
      · exact tl_low ww
    refine hn _ ⟨some (T w), L2, f2, rfl, n2, by omega, fun c => ?_, h2, lo2⟩
    have et : (ws.take (0 + i + 1)).map edW = (ws.take (0 + i)).map edW ++ [edW w] := by
      rw [Nat.zero_add, List.take_succ, ei]
      simp
    rw [et, bal_app, ← hf c]
    have k1 : f1 c = f c + dl (hdc w) c := by
      rw [e1]
      by_cases z : c = hdc w
      · rw [if_pos z, ← z, dl_self]
      · rw [if_neg z, dl_ne (Ne.symm z)]; omega
    have k2 : f2 c = f1 c - dl (tlc w) c := by
      rw [e2]
      by_cases z : c = tlc w
      · rw [if_pos z, ← z, dl_self]
      · rw [if_neg z, dl_ne (Ne.symm z)]; omega
    show f2 c = f c + (dl (hdc w) c - dl (tlc w) c + 0)
    omega
  · obtain ⟨o2, L, f, rfl, nd, hL, hf, h0, lo⟩ := p
    have hb : f = bal (ws.map edW) := by
      funext c
      rw [hf c, Nat.zero_add, List.take_length]
    subst hb
    exact ⟨lk, h _ L nd (by omega) h0 lo lk⟩
open Classical in
theorem l__law_odd : ∀ ds R, g__law_odd ds R → w__law_odd { nx := fun _ => R (.v .non), rt := R } (startR ["book", "gaps", "word", "sign", "odd"] ds) := by
  rintro ds R ⟨z, ws, rfl, ⟨hl, hw, _⟩, h⟩
  change w__law_odd _ [.bor (.tup z (ws.map T)), .no, .no, .no, .no]
  simp only [w__law_odd, wSeqS, wSet, wDic0, List.set_cons_succ, List.set_cons_zero]
  refine ⟨(by decide : (1 : Nat) < 5), ?_⟩
  simp only [wFor, wSeq, wHv, List.getElem?_cons_zero, seqOf]
  refine ⟨imm_T ws, ?_⟩
  refine gaps_loop hl hw rfl fun x2 L nd hL h0 lo0 _ => ?_
  have tab_ix : ∀ c, c ∈ L → ∀ K : D → Prop, K (N (bal (ws.map edW) c)) → kIx (tabD L (bal (ws.map edW))) (T (sgn c)) K := fun c hc K hK => by
    unfold kIx
    have e : kIxO (tabD L (bal (ws.map edW))) (T (sgn c)) = some (N (bal (ws.map edW) c)) := by
      show lookD (L.map kk) (L.map fun c => N (bal (ws.map edW) c)) (kk c) = _
      rw [lookD_map kk kk_inj (fun c => N (bal (ws.map edW) c)) c L, if_pos hc]
    simp only [e]
    exact hK
  simp only [wSeqS, wNext, wSet, wDrop, wRet, wRetV, wRetN, wIfS, wPar, wPar3, wAsg, wUnp2, wVar, wHv, wC, wB, wU, wNil, wCons, wL, wImm, wTup, wLst, wIf, asB, wTB, wAndV, wOrV, wAndT, wOrT, wNotT, wChain, wNoPart, wPart, wSl, wGet, wYes, wN, List.getElem?_cons_zero, List.getElem?_cons_succ, List.set_cons_zero, List.set_cons_succ, List.length_cons, List.length_nil, if_true, if_false, Bool.false_eq_true, ↓reduceIte, wLc, wLcK, wDc, wDcK, wZip, wSeq, wEnum, wRng1, wRng2, borAll, wipeR, Sl.toBor, List.map_cons, List.map_nil, wM]
  refine ⟨rfl, ?_⟩
  have low : ∀ c ∈ L, c ∈ oddL (ws.map edW) ∨ bal (ws.map edW) c = 0 := fun c _ => by
    by_cases z : bal (ws.map edW) c = 0
    · exact .inr z
    · exact .inl (((oddL_odd hw).2 c).mpr z)
  refine k_sorted_strs (ws := L.map sgn) (by show some ((L.map kk).map keyD) = _; rw [List.map_map, List.map_map]; rfl) (by rw [List.length_map]; omega) (fun w hm => ?_) ?_
  · obtain ⟨c, hc, rfl⟩ := List.mem_map.mp hm
    exact ok_of_low (low_sgn (lo0 c hc))
  rw [sort_sgn]
  simp only [seqOf]
  refine ⟨imm_T _, ?_⟩
  rw [List.map_map]
  refine lcW_of (T ∘ sgn) (fun c => if decide (bal (ws.map edW) c ≠ 0) = true then some (T (sgn c)) else none) (L.mergeSort fun a b => decide (a ≤ b)) [] (fun c hc K hK => ?_) (by simp [List.length_mergeSort]; omega) ?_
  · have hc' : c ∈ L := (List.mergeSort_perm ..).mem_iff.mp hc
    refine ⟨(by decide : (3 : Nat) < 5), ?_⟩
    simp only [wSeqS, wNext, wSet, wDrop, wRet, wRetV, wRetN, wIfS, wPar, wPar3, wAsg, wUnp2, wVar, wHv, wC, wB, wU, wNil, wCons, wL, wImm, wTup, wLst, wIf, asB, wTB, wAndV, wOrV, wAndT, wOrT, wNotT, wChain, wNoPart, wPart, wSl, wGet, wYes, wN, List.getElem?_cons_zero, List.getElem?_cons_succ, List.set_cons_zero, List.set_cons_succ, List.length_cons, List.length_nil, if_true, if_false, Bool.false_eq_true, ↓reduceIte]
    refine tab_ix c hc' _ ?_
    refine k_ne_int (a := bal (ws.map edW) c) (b := 0) ?_
    by_cases q : bal (ws.map edW) c = 0
    · rw [decide_eq_false (by simpa using q), if_neg Bool.false_ne_true] at hK
      rw [decide_eq_true q]
      exact hK
    · rw [decide_eq_true q, if_pos rfl] at hK
      rw [decide_eq_false q]
      exact ⟨rfl, hK⟩
  rw [filter_fm, List.nil_append, sorted_oddL hw nd h0]
  have e3 : (oddL (ws.map edW)).map (fun c => T (sgn c)) = ((oddL (ws.map edW)).map sgn).map T := by rw [List.map_map]; rfl
  rw [e3]
  have lo : (oddL (ws.map edW)).length ≤ 26 := by
    have := List.length_filter_le (fun c => decide (bal (ws.map edW) c ≠ 0)) ((List.range 26).map (97 + ·))
    rw [List.length_map, List.length_range] at this
    exact this
  refine k_join_signs (by omega) ?_
  refine ⟨(by decide : (4 : Nat) < 5), ?_⟩
  have ev := even_iff (oddL_odd hw)
  have okO : (PyData.str (oddS (ws.map edW))).canLay0 = true := ok_of_low fun c hc => by
    have hc : c ∈ oddL (ws.map edW) := by simpa [oddS] using hc
    obtain ⟨i, hi, rfl⟩ := List.mem_map.mp (List.mem_filter.mp hc).1
    rw [List.mem_range] at hi
    show 97 ≤ 97 + i ∧ 97 + i ≤ 122
    omega
  refine ⟨rfl, ?_⟩
  refine k_eq_str (a := oddS (ws.map edW)) (b := Str.ofString "") okO (ok_of_low fun c hc => by rw [show (Str.ofString "").cps.toList = [] by decide] at hc; cases hc) ?_
  by_cases e0 : oddL (ws.map edW) = []
  · have e1 : (oddS (ws.map edW) == Str.ofString "") = true := by
      unfold oddS
      rw [show ((List.range 26).map (97 + ·)).filter (fun c => decide (bal (ws.map edW) c ≠ 0)) = [] from e0]
      decide
    rw [e1]
    simp only [wSeqS, wNext, wSet, wDrop, wRet, wRetV, wRetN, wIfS, wPar, wPar3, wAsg, wUnp2, wVar, wHv, wC, wB, wU, wNil, wCons, wL, wImm, wTup, wLst, wIf, asB, wTB, wAndV, wOrV, wAndT, wOrT, wNotT, wChain, wNoPart, wPart, wSl, wGet, wYes, wN, List.getElem?_cons_zero, List.getElem?_cons_succ, List.set_cons_zero, List.set_cons_succ, List.length_cons, List.length_nil, if_true, if_false, Bool.false_eq_true, ↓reduceIte]
    refine ⟨by decide, ?_⟩
    rw [decide_eq_true (ev.mpr (.inl e0))] at h
    exact h
  · have e1 : (oddS (ws.map edW) == Str.ofString "") = false := by
      refine beq_false_of_ne fun q => e0 ?_
      have := congrArg (fun x : Str => x.cps.toList) q
      simp only [oddS] at this
      rw [show (Str.ofString "").cps.toList = [] by decide] at this
      exact this
    rw [e1]
    simp only [wSeqS, wNext, wSet, wDrop, wRet, wRetV, wRetN, wIfS, wPar, wPar3, wAsg, wUnp2, wVar, wHv, wC, wB, wU, wNil, wCons, wL, wImm, wTup, wLst, wIf, asB, wTB, wAndV, wOrV, wAndT, wOrT, wNotT, wChain, wNoPart, wPart, wSl, wGet, wYes, wN, List.getElem?_cons_zero, List.getElem?_cons_succ, List.set_cons_zero, List.set_cons_succ, List.length_cons, List.length_nil, if_true, if_false, Bool.false_eq_true, ↓reduceIte, wLc, wLcK, wDc, wDcK, wZip, wSeq, wEnum, wRng1, wRng2, borAll, wipeR, Sl.toBor, List.map_cons, List.map_nil, seqOf]
    refine ⟨immL_map _ (fun _ => rfl) _, ?_⟩
    rw [signs_map]
    have eo : (⟨(oddL (ws.map edW)).toArray⟩ : Str).cps.toList = oddL (ws.map edW) := rfl
    rw [eo]
    refine lcW_mapI (fun c => T (sgn c)) (fun c => N (bal (ws.map edW) c)) (fun c hc K hK => ?_) (by omega) ?_
    · have hc' : c ∈ L := by
        refine Classical.byContradiction fun m => ?_
        exact ((oddL_odd hw).2 c).mp hc (h0 c m)
      refine ⟨(by decide : (3 : Nat) < 5), ?_⟩
      simp only [wSeqS, wNext, wSet, wDrop, wRet, wRetV, wRetN, wIfS, wPar, wPar3, wAsg, wUnp2, wVar, wHv, wC, wB, wU, wNil, wCons, wL, wImm, wTup, wLst, wIf, asB, wTB, wAndV, wOrV, wAndT, wOrT, wNotT, wChain, wNoPart, wPart, wSl, wGet, wYes, wN, List.getElem?_cons_zero, List.getElem?_cons_succ, List.set_cons_zero, List.set_cons_succ, List.length_cons, List.length_nil, if_true, if_false, Bool.false_eq_true, ↓reduceIte]
      exact tab_ix c hc' _ ⟨rfl, hK⟩
    rw [map_bal]
    refine k_sorted_ints rfl (by rw [List.length_map]; omega) ?_
    simp only [kNeg]
    refine ⟨by decide, ?_⟩
    refine k_eq_ints (a := srt ((oddL (ws.map edW)).map (bal (ws.map edW)))) (b := [-1, 1]) ?_
    refine ⟨by decide, ?_⟩
    have : decide (srt ((oddL (ws.map edW)).map (bal (ws.map edW))) = [-1, 1]) = decide (Even (ws.map edW)) := decide_eq_decide.mpr ⟨fun z => ev.mpr (.inr z), fun z => (ev.mp z).resolve_left e0⟩
    rw [this]
    exact h
end K20

namespace K20
open PySem PySem.Spec PyProof.Rows L2 PL
/-! ### _law_hanging -/
abbrev kn (n : Nat) : Key := .inl (n : Int)
theorem kn_inj : ∀ a b, kn a = kn b → a = b := fun a b h => by injection h with h; omega
abbrev ndD (F : List Nat) : D := .dic (F.map kn) (F.map fun _ => B true)
theorem nd_notIn {F : List Nat} {j : Nat} {R : D → Prop} (h : R (B (!decide (j ∈ F)))) : kNotIn (Nn j) (ndD F) R := by
  unfold kNotIn
  have e : kInB (Nn j) (ndD F) = some (decide (j ∈ F)) := by
    show some (memK (F.map kn) (kn j)) = _
    rw [memK_map kn kn_inj j F]
  simp only [e]
  exact h
theorem nd_store {F : List Nat} (nd : F.Nodup) (hl : F.length ≤ 500) {j : Nat} (hj : j ∉ F) {R : D → Prop} (h : R (ndD (F ++ [j]))) : storeD (ndD F) (Nn j) (B true) R := by
  show (F.map kn).length < sizeLine ∧ R (.dic (putD (F.map kn) (F.map fun _ => B true) (kn j) (B true)).1 (putD (F.map kn) (F.map fun _ => B true) (kn j) (B true)).2)
  refine ⟨by rw [List.length_map]; exact small1000 (by omega), ?_⟩
  rw [putD_map kn kn_inj (fun _ => B true) j (B true) F nd, if_neg hj]
  have e : (fun x : Nat => if x = j then B true else B true) = fun _ => B true := by funext x; split <;> rfl
  rw [e]
  exact h
theorem put_kn {S : List Nat} (nd : S.Nodup) (c : Nat) : ∃ S' : List Nat, S'.Nodup ∧ (∀ x, x ∈ S' ↔ x ∈ S ∨ x = c) ∧ putD (S.map kk) (S.map fun _ => B true) (kk c) (B true) = (S'.map kk, S'.map fun _ => B true) := by
  refine ⟨if c ∈ S then S else S ++ [c], ?_, fun x => ?_, ?_⟩
  · by_cases m : c ∈ S
    · rw [if_pos m]; exact nd
    · rw [if_neg m]; exact List.nodup_append.mpr ⟨nd, by simp, fun x hx y hy z => m (by rw [List.mem_singleton] at hy; rw [← hy, ← z]; exact hx)⟩
  · by_cases m : c ∈ S
    · rw [if_pos m]; exact ⟨.inl, fun z => z.elim id fun z => z ▸ m⟩
    · rw [if_neg m]; simp
  · rw [putD_map kk kk_inj (fun _ => B true) c (B true) S nd]
    have e : (fun x : Nat => if x = c then B true else B true) = fun _ => B true := by funext x; split <;> rfl
    rw [e]
theorem merge_kn : ∀ (M : List Nat) {S : List Nat}, S.Nodup → ∃ S' : List Nat, S'.Nodup ∧ (∀ x, x ∈ S' ↔ x ∈ S ∨ x ∈ M) ∧ mergeD (S.map kk) (S.map fun _ => B true) (M.map fun c => (kk c, B true)) = (S'.map kk, S'.map fun _ => B true)
  | [], S, nd => ⟨S, nd, fun x => by simp, rfl⟩
  | c :: M, S, nd => by
    obtain ⟨S1, n1, m1, e1⟩ := put_kn nd c
    obtain ⟨S2, n2, m2, e2⟩ := merge_kn M n1
    refine ⟨S2, n2, fun x => by rw [m2, m1, List.mem_cons, or_assoc], ?_⟩
    show mergeD (putD (S.map kk) (S.map fun _ => B true) (kk c) (B true)).1 (putD (S.map kk) (S.map fun _ => B true) (kk c) (B true)).2 _ = _
    rw [e1]
    exact e2
theorem zip_kn (M : List Nat) : (M.map kk).zip (M.map fun _ => B true) = M.map fun c => (kk c, B true) := by
  induction M with
  | nil => rfl
  | cons c M ih => rw [List.map_cons, List.map_cons, List.zip_cons_cons, ih, List.map_cons]
theorem disp_two {h t : Nat} {R : D → Prop} (g : ∀ S, S.Nodup → (∀ x, x ∈ S ↔ x = h ∨ x = t) → R (knD S)) :
    (match keyedD [(T (sgn h), B true), (T (sgn t), B true)] with
      | some kds => R (.dic (mergeD [] [] kds).1 (mergeD [] [] kds).2)
      | none => False) := by
  obtain ⟨S, n, m, e⟩ := merge_kn [h, t] (S := []) List.nodup_nil
  have e' : mergeD [] [] [(kk h, B true), (kk t, B true)] = (S.map kk, S.map fun _ => B true) := e
  show R (.dic (mergeD [] [] [(kk h, B true), (kk t, B true)]).1 (mergeD [] [] [(kk h, B true), (kk t, B true)]).2)
  rw [e']
  exact g S n fun x => by rw [m]; simp
structure St (ws : List Str) (c0 : Nat) (F S : List Nat) : Prop where
  nf : F.Nodup
  zero : 0 ∈ F
  inn : ∀ i ∈ F, i < ws.length ∧ Reach (ws.map edW) c0 (hdc (wsI ws i))
  ns : S.Nodup
  mem : ∀ x, x ∈ S ↔ ∃ i ∈ F, x = hdc (wsI ws i) ∨ x = tlc (wsI ws i)
def Touch (ws : List Str) (S : List Nat) (i : Nat) : Prop := hdc (wsI ws i) ∈ S ∨ tlc (wsI ws i) ∈ S
def Shut (ws : List Str) (F S : List Nat) : Prop := ∀ i, i < ws.length → Touch ws S i → i ∈ F
theorem St.lenF {ws : List Str} {c0 : Nat} {F S : List Nat} (s : St ws c0 F S) : F.length ≤ ws.length := by
  have := nodup_len (L := F) (M := List.range ws.length) s.nf fun i hi => List.mem_range.mpr (s.inn i hi).1
  simpa using this
theorem St.lenS {ws : List Str} {c0 : Nat} {F S : List Nat} (hw : ∀ i, i < ws.length → Wd (wsI ws i)) (s : St ws c0 F S) : S.length ≤ 26 := by
  have := nodup_len (L := S) (M := (List.range 26).map (97 + ·)) s.ns fun x hx => by
    obtain ⟨i, hi, q⟩ := (s.mem x).mp hx
    have ww := hw i (s.inn i hi).1
    have : 97 ≤ x ∧ x ≤ 122 := by
      rcases q with rfl | rfl
      · exact hd_low ww
      · exact tl_low ww
    exact List.mem_map.mpr ⟨x - 97, List.mem_range.mpr (by omega), by omega⟩
  simpa using this
theorem St.add {ws : List Str} {c0 : Nat} {F S S' : List Nat} {j : Nat} (s : St ws c0 F S) (hj : j < ws.length) (nj : j ∉ F) (t : Touch ws S j) (n' : S'.Nodup) (m' : ∀ x, x ∈ S' ↔ x ∈ S ∨ x = hdc (wsI ws j) ∨ x = tlc (wsI ws j)) : St ws c0 (F ++ [j]) S' where
  nf := List.nodup_append.mpr ⟨s.nf, by simp, fun x hx y hy z => nj (by rw [List.mem_singleton] at hy; rw [← hy, ← z]; exact hx)⟩
  zero := by simp [s.zero]
  ns := n'
  mem := fun x => by
    rw [m', s.mem]
    constructor
    · rintro (⟨i, hi, q⟩ | q)
      · exact ⟨i, by simp [hi], q⟩
      · exact ⟨j, by simp, q⟩
    · rintro ⟨i, hi, q⟩
      rcases List.mem_append.mp hi with hi | hi
      · exact .inl ⟨i, hi, q⟩
      · rw [List.mem_singleton] at hi; subst hi; exact .inr q
  inn := fun i hi => by
    rcases List.mem_append.mp hi with hi | hi
    · exact s.inn i hi
    · rw [List.mem_singleton] at hi
      subst hi
      refine ⟨hj, ?_⟩
      have em : edW (wsI ws i) ∈ ws.map edW := List.mem_map.mpr ⟨_, by
        show ws.getD i ⟨#[]⟩ ∈ ws
        rw [List.getD_eq_getElem?_getD, List.getElem?_eq_getElem hj]
        exact List.getElem_mem hj, rfl⟩
      have reach : ∀ x ∈ S, Reach (ws.map edW) c0 x := fun x hx => by
        obtain ⟨k, hk, q⟩ := (s.mem x).mp hx
        have r := (s.inn k hk).2
        have ek : edW (wsI ws k) ∈ ws.map edW := List.mem_map.mpr ⟨_, by
          show ws.getD k ⟨#[]⟩ ∈ ws
          rw [List.getD_eq_getElem?_getD, List.getElem?_eq_getElem (s.inn k hk).1]
          exact List.getElem_mem _, rfl⟩
        rcases q with rfl | rfl
        · exact r
        · exact .fwd ek r
      rcases t with t | t
      · exact reach _ t
      · exact .bwd em (reach _ t)
theorem St.done {ws : List Str} {F S : List Nat} (s : St ws (hdc (wsI ws 0)) F S) (sh : Shut ws F S) : srt (F.map fun (i : Nat) => (i : Int)) = (hangs ws (hdc (wsI ws 0))).map fun (i : Nat) => (i : Int) := by
  classical
  have inS : ∀ x, Reach (ws.map edW) (hdc (wsI ws 0)) x → x ∈ S := fun x r => by
    have step : ∀ e ∈ ws.map edW, (e.1 ∈ S → e.2 ∈ S) ∧ (e.2 ∈ S → e.1 ∈ S) := fun e he => by
      obtain ⟨w, hm, rfl⟩ := List.mem_map.mp he
      obtain ⟨i, hi, rfl⟩ := List.getElem_of_mem hm
      have ei : wsI ws i = ws[i] := by
        show ws.getD i ⟨#[]⟩ = _
        rw [List.getD_eq_getElem?_getD, List.getElem?_eq_getElem hi]; rfl
      have both : Touch ws S i → hdc (wsI ws i) ∈ S ∧ tlc (wsI ws i) ∈ S := fun t => by
        have := sh i hi t
        exact ⟨(s.mem _).mpr ⟨i, this, .inl rfl⟩, (s.mem _).mpr ⟨i, this, .inr rfl⟩⟩
      unfold Touch at both
      rw [ei] at both
      exact ⟨fun q => (both (.inl q)).2, fun q => (both (.inr q)).1⟩
    induction r with
    | base => exact (s.mem _).mpr ⟨0, s.zero, .inl rfl⟩
    | fwd m _ ih => exact (step _ m).1 ih
    | bwd m _ ih => exact (step _ m).2 ih
  have nh : (hangs ws (hdc (wsI ws 0))).Nodup := List.Pairwise.filter _ List.nodup_range
  refine srt_unique (List.Perm.map _ ((List.perm_ext_iff_of_nodup s.nf nh).mpr fun i => ?_)) ?_
  · unfold hangs
    rw [List.mem_filter, List.mem_range]
    exact ⟨fun h => ⟨(s.inn i h).1, decide_eq_true (s.inn i h).2⟩, fun h => sh i h.1 (.inl (inS _ (of_decide_eq_true h.2)))⟩
  · rw [List.pairwise_map]
    exact (List.Pairwise.filter _ List.pairwise_lt_range).imp fun h => by omega
end K20

namespace K20
open PySem PySem.Spec PyProof.Rows L2 PL
theorem kn_upd {S M : List Nat} (nd : S.Nodup) (hl : S.length + M.length ≤ 1000) {R : D → Prop} (h : ∀ S', S'.Nodup → (∀ x, x ∈ S' ↔ x ∈ S ∨ x ∈ M) → R (knD S')) :
    immL (S.map fun _ => B true) = true ∧ immL (M.map fun _ => B true) = true ∧ (S.map kk).length + (M.map kk).length ≤ sizeLine ∧ R (.dic (mergeD (S.map kk) (S.map fun _ => B true) ((M.map kk).zip (M.map fun _ => B true))).1 (mergeD (S.map kk) (S.map fun _ => B true) ((M.map kk).zip (M.map fun _ => B true))).2) := by
  refine ⟨immL_map _ (fun _ => rfl) _, immL_map _ (fun _ => rfl) _, by rw [List.length_map, List.length_map]; exact Nat.le_of_lt (small1000 hl), ?_⟩
  obtain ⟨S', n', m', e⟩ := merge_kn M nd
  rw [zip_kn, e]
  exact h S' n' m'
theorem l__law_hanging : ∀ ds R, g__law_hanging ds R → w__law_hanging { nx := fun _ => R (.v .non), rt := R } (startR ["book", "found", "signs", "turn", "at", "word"] ds) := by
  rintro ds R ⟨z, w, ws, rfl, hb, h⟩
  change w__law_hanging _ [.bor (.tup z ((w :: ws).map T)), .no, .no, .no, .no, .no]
  change R (.tup false ((hangs (w :: ws) (hdc (wsI (w :: ws) 0))).map Nn)) at h
  generalize hW : w :: ws = W at *
  have hpos : 0 < W.length := by rw [← hW]; simp
  have hn := hb.1
  have hw : ∀ i, i < W.length → Wd (wsI W i) := fun i hi => hb.2.1 _ (by
    show W.getD i ⟨#[]⟩ ∈ W
    rw [List.getD_eq_getElem?_getD, List.getElem?_eq_getElem hi]
    exact List.getElem_mem hi)
  have w0 := hw 0 hpos
  simp only [w__law_hanging, wSeqS, wNext, wSet, wDrop, wRet, wRetV, wRetN, wIfS, wPar, wPar3, wAsg, wUnp2, wVar, wHv, wC, wB, wU, wNil, wCons, wL, wImm, wTup, wLst, wIf, asB, wTB, wAndV, wOrV, wAndT, wOrT, wNotT, wChain, wNoPart, wPart, wSl, wGet, wYes, wN, List.getElem?_cons_zero, List.getElem?_cons_succ, List.set_cons_zero, List.set_cons_succ, List.length_cons, List.length_nil, if_true, if_false, Bool.false_eq_true, ↓reduceIte, wDisp, pairsW]
  refine ⟨rfl, rfl, ?_⟩
  refine k_at (ws := W) (i := 0) hpos (k_first w0 ⟨rfl, rfl, ?_⟩)
  refine k_at (ws := W) (i := 0) hpos ?_
  simp only [kNeg]
  refine k_last w0 ⟨rfl, rfl, ?_⟩
  obtain ⟨S0, n0, m0, em⟩ := merge_kn [hdc (wsI W 0), tlc (wsI W 0)] (S := []) List.nodup_nil
  have ek : ∀ a b : Nat, keyedD [(T (sgn a), B true), (T (sgn b), B true)] = some [(kk a, B true), (kk b, B true)] := fun _ _ => rfl
  simp only [ek]
  have em' : mergeD [] [] [(kk (hdc (wsI W 0)), B true), (kk (tlc (wsI W 0)), B true)] = (S0.map kk, S0.map fun _ => B true) := em
  simp only [em']
  refine ⟨(by decide : (1 : Nat) < 6), (by decide : (2 : Nat) < 6), ?_⟩
  simp only [wFor, wRng1, wSeqS, wNext, wSet, wDrop, wRet, wRetV, wRetN, wIfS, wPar, wPar3, wAsg, wUnp2, wVar, wHv, wC, wB, wU, wNil, wCons, wL, wImm, wTup, wLst, wIf, asB, wTB, wAndV, wOrV, wAndT, wOrT, wNotT, wChain, wNoPart, wPart, wSl, wGet, wYes, wN, List.getElem?_cons_zero, List.getElem?_cons_succ, List.set_cons_zero, List.set_cons_succ, List.length_cons, List.length_nil, if_true, if_false, Bool.false_eq_true, ↓reduceIte, kLen, List.length_map]
  refine ⟨by omega, by omega, ?_⟩
  rw [Int.toNat_natCast, rng_items]
  have s0 : St W (hdc (wsI W 0)) [0] S0 := ⟨by simp, by simp, fun i hi => by
    rw [List.mem_singleton] at hi; subst hi; exact ⟨hpos, .base⟩, n0, fun x => by rw [m0]; simp⟩
  refine forW_by N _ (fun t ρ => ∃ (F S : List Nat) (o3 o4 o5 : Option D), ρ = [.bor (.tup z (W.map T)), .own (ndD F), .own (knD S), fr o3, fr o4, fr o5] ∧ St W (hdc (wsI W 0)) F S ∧ (Shut W F S ∨ t + 1 ≤ F.length))
    0 (fun t a ρ ei p nx hnx => ?_) (fun ρ p => ?_) _ ⟨[0], S0, none, none, none, rfl, s0, .inr (Nat.le_refl _)⟩
  · obtain ⟨F, S, o3, p4, p5, rfl, st, cl⟩ := p
    refine ⟨(by decide : (3 : Nat) < 6), ?_⟩
    simp only [wFor, wEnum, wHv, List.set_cons_succ, List.set_cons_zero, List.getElem?_cons_zero, seqOf]
    refine ⟨imm_T W, ?_⟩
    rw [enum_words]
    refine forW_by (fun i => .tup false [Nn i, T (W.getD i ⟨#[]⟩)]) (List.range W.length) (fun j ρ => ∃ (F' S' : List Nat) (o4 o5 : Option D), ρ = [.bor (.tup z (W.map T)), .own (ndD F'), .own (knD S'), .own (N a), fr o4, fr o5] ∧ St W (hdc (wsI W 0)) F' S' ∧
        ((F' = F ∧ S' = S ∧ ∀ i, i < j → Touch W S i → i ∈ F) ∨ (F.length + 1 ≤ F'.length ∧ ¬ Shut W F S)))
      0 (fun j b ρ ej p nx2 hnx2 => ?_) (fun ρ p => ?_) _ ⟨F, S, p4, p5, rfl, st, .inl ⟨rfl, rfl, fun i hi => absurd hi (by omega)⟩⟩
    · obtain ⟨F', S', o4, o5, rfl, st', alt⟩ := p
      have hj : j < W.length := by have := (List.getElem?_eq_some_iff.mp ej).1; simpa using this
      have eb : b = j := by
        obtain ⟨h1, h2⟩ := List.getElem?_eq_some_iff.mp ej
        rw [List.getElem_range] at h2; exact h2.symm
      subst eb
      rw [Nat.zero_add] at *
      have ww := hw b hj
      refine ⟨(by decide : (4 : Nat) < 6), (by decide : (5 : Nat) < 6), ?_⟩
      rw [wNs]
      simp only [List.set_cons_succ, List.set_cons_zero]
      simp only [wIfS, wAndT, wTB, wB, wVar, List.getElem?_cons_succ, List.getElem?_cons_zero]
      refine nd_notIn ?_
      have keep : (b ∈ F' ∨ ¬ Touch W S' b) → nx2 [.bor (.tup z (W.map T)), .own (ndD F'), .own (knD S'), .own (N a), .own (Nn b), .own (T (wsI W b))] := fun q => by
        refine hnx2 _ ⟨F', S', some (Nn b), some (T (wsI W b)), rfl, st', ?_⟩
        rcases alt with ⟨rfl, rfl, al⟩ | q2
        · refine .inl ⟨rfl, rfl, fun i hi ti => ?_⟩
          by_cases e : i = b
          · subst e
            exact q.resolve_right fun n => n ti
          · exact al i (by omega) ti
        · exact .inr q2
      by_cases hm : b ∈ F'
      · rw [decide_eq_true hm]
        exact keep (.inl hm)
      · rw [decide_eq_false hm]
        have grow : Touch W S' b → ∀ S'', S''.Nodup → (∀ x, x ∈ S'' ↔ x ∈ S' ∨ x = hdc (wsI W b) ∨ x = tlc (wsI W b)) → nx2 [.bor (.tup z (W.map T)), .own (ndD (F' ++ [b])), .own (knD S''), .own (N a), .own (Nn b), .own (T (wsI W b))] := fun tb S'' n'' m'' => by
          refine hnx2 _ ⟨F' ++ [b], S'', some (Nn b), some (T (wsI W b)), rfl, st'.add hj hm tb n'' m'', .inr ?_⟩
          rcases alt with ⟨rfl, rfl, al⟩ | ⟨q1, q2⟩
          · exact ⟨by simp, fun sh => hm (sh b hj tb)⟩
          · exact ⟨by simp; omega, q2⟩
        have len' := st'.lenF
        have fin : Touch W S' b → wSeqS (wStore 1 (wVar 4) (wC (.bl true))) (wUpd 2 (wDisp [((wB kIx (wVar 5) (wC (.int 0))), (wC (.bl true))), ((wB kIx (wVar 5) (wU kNeg (wC (.int 1)))), (wC (.bl true)))]))
            { nx := nx2, rt := R, bk := fun ρ2 => lcks ρ2 = lcks [.bor (.tup z (W.map T)), .own (ndD F), .own (knD S), .own (N a), fr p4, fr p5] ∧ nx ρ2, ct := nx2 } [.bor (.tup z (W.map T)), .own (ndD F'), .own (knD S'), .own (N a), .own (Nn b), .own (T (wsI W b))] := fun tb => by
          simp only [wSeqS, wNext, wSet, wDrop, wRet, wRetV, wRetN, wIfS, wPar, wPar3, wAsg, wUnp2, wVar, wHv, wC, wB, wU, wNil, wCons, wL, wImm, wTup, wLst, wIf, asB, wTB, wAndV, wOrV, wAndT, wOrT, wNotT, wChain, wNoPart, wPart, wSl, wGet, wYes, wN, List.getElem?_cons_zero, List.getElem?_cons_succ, List.set_cons_zero, List.set_cons_succ, List.length_cons, List.length_nil, if_true, if_false, Bool.false_eq_true, ↓reduceIte, wStore, ownD]
          refine nd_store st'.nf (by omega) hm ?_
          simp only [wSeqS, wNext, wSet, wDrop, wRet, wRetV, wRetN, wIfS, wPar, wPar3, wAsg, wUnp2, wVar, wHv, wC, wB, wU, wNil, wCons, wL, wImm, wTup, wLst, wIf, asB, wTB, wAndV, wOrV, wAndT, wOrT, wNotT, wChain, wNoPart, wPart, wSl, wGet, wYes, wN, List.getElem?_cons_zero, List.getElem?_cons_succ, List.set_cons_zero, List.set_cons_succ, List.length_cons, List.length_nil, if_true, if_false, Bool.false_eq_true, ↓reduceIte, wUpd, ownK, wDisp, pairsW]
          refine k_first ww ⟨rfl, rfl, ?_⟩
          simp only [kNeg]
          refine k_last ww ⟨rfl, rfl, ?_⟩
          simp only [ek]
          obtain ⟨S1, n1, m1, e1⟩ := merge_kn [hdc (wsI W b), tlc (wsI W b)] (S := []) List.nodup_nil
          have e1' : mergeD [] [] [(kk (hdc (wsI W b)), B true), (kk (tlc (wsI W b)), B true)] = (S1.map kk, S1.map fun _ => B true) := e1
          simp only [e1']
          have l1 : S1.length ≤ 2 := by
            have := nodup_len (L := S1) (M := [hdc (wsI W b), tlc (wsI W b)]) n1 fun x hx => by have := (m1 x).mp hx; simpa using this
            simpa using this
          have l2 := st'.lenS hw
          refine kn_upd (M := S1) (R := fun d => nx2 [.bor (.tup z (W.map T)), .own (ndD (F' ++ [b])), .own d, .own (N a), .own (Nn b), .own (T (wsI W b))]) st'.ns (by omega) fun S'' n'' m'' => ?_
          exact grow tb S'' n'' fun x => by rw [m'', m1]; simp
        simp only [Bool.not_false, wOrT, wTB, wB, wVar, wC, wU, kNeg, asB, List.getElem?_cons_succ, List.getElem?_cons_zero, if_true]
        refine k_first ww (kn_in ?_)
        by_cases t1 : hdc (wsI W b) ∈ S'
        · rw [decide_eq_true t1]
          exact fin (.inl t1)
        · rw [decide_eq_false t1]
          simp only [if_false, Bool.false_eq_true]
          refine k_last ww (kn_in ?_)
          by_cases t2 : tlc (wsI W b) ∈ S'
          · rw [decide_eq_true t2]
            exact fin (.inr t2)
          · rw [decide_eq_false t2]
            exact keep (.inr fun q => q.elim t1 t2)
    · obtain ⟨F', S', o4, o5, rfl, st', alt⟩ := p
      rw [Nat.zero_add, List.length_range] at alt
      refine ⟨by simp only [lcks_fr, lcks_own, lcks_bor, lcks_nil], hnx _ ⟨F', S', some (N a), o4, o5, rfl, st', ?_⟩⟩
      rcases alt with ⟨rfl, rfl, al⟩ | ⟨q1, q2⟩
      · exact .inl al
      · refine .inr ?_
        have := cl.resolve_left q2
        omega
  · obtain ⟨F, S, o3, o4, o5, rfl, st, cl⟩ := p
    rw [Nat.zero_add, List.length_map, List.length_range] at cl
    refine ⟨by simp only [lcks_fr, lcks_own, lcks_bor, lcks_nil]; rfl, ?_⟩
    have sh : Shut W F S := cl.resolve_right fun q => by have := st.lenF; omega
    simp only [wSeqS, wNext, wSet, wDrop, wRet, wRetV, wRetN, wIfS, wPar, wPar3, wAsg, wUnp2, wVar, wHv, wC, wB, wU, wNil, wCons, wL, wImm, wTup, wLst, wIf, asB, wTB, wAndV, wOrV, wAndT, wOrT, wNotT, wChain, wNoPart, wPart, wSl, wGet, wYes, wN, List.getElem?_cons_zero, List.getElem?_cons_succ, List.set_cons_zero, List.set_cons_succ, List.length_cons, List.length_nil, if_true, if_false, Bool.false_eq_true, ↓reduceIte]
    refine k_sorted_ints (ns := F.map fun (i : Nat) => (i : Int)) (by show some ((F.map kn).map keyD) = _; rw [List.map_map, List.map_map]; rfl) (by rw [List.length_map]; have := st.lenF; omega) ?_
    have := st.done sh
    show kTuple [.lst ((srt (F.map fun (i : Nat) => (i : Int))).map N)] R
    rw [this, List.map_map]
    exact ⟨imm_Nn _, h⟩
end K20

namespace K20
open PySem PySem.Spec PyProof.Rows L2 PL
def t5 : WS :=
    (wSeqS (wSet 6 (wSl (wL kTupZ (wCons (wL kSorted (wCons (wL kDict (wCons (wLc [5] (wSeq (wHv 2)) (wN 5) wYes (wTup (wCons (wImm (wVar 5)) (wCons (wC (.bl true)) wNil)))) wNil)) wNil)) wNil)) wNoPart (wPart (wC (.int 60)))))
    (wSeqS (wUnp2 7 8 (wL g__law_odd (wCons (wVar 6) wNil)))
    (wSeqS (wSet 9 (wL g__law_hanging (wCons (wVar 6) wNil)))
    (wSeqS (wPar 10 11 (wCons (wL g_chain (wCons (wVar 6) wNil)) (wCons (wL g_bar (wCons (wVar 6) wNil)) wNil)))
    (wSeqS (wIfS (wOrT (wTB (wB kNe (wB kIsNot (wVar 10) (wC .non)) (wAndV (wVar 8) (wB kEq (wL kLen (wCons (wVar 9) wNil)) (wL kLen (wCons (wVar 6) wNil)))))) (wTB (wB kNe (wB kIs (wVar 11) (wC .non)) (wB kIsNot (wVar 10) (wC .non))))) (wRet (wC (.bl false))) wNext)
    (wSeqS (wIfS (wTB (wB kIs (wVar 10) (wC .non))) (wRet (wB kEq (wVar 11) (wIf (wNotT (wTB (wVar 8))) (wTup (wCons (wC (.str "letters")) (wCons (wImm (wVar 7)) wNil))) (wTup (wCons (wC (.str "apart")) (wCons (wImm (wVar 9)) wNil)))))) wNext)
    (wSeqS (wIfS (wOrT (wNotT (wTB (wL g__law_is_one (wCons (wVar 6) (wCons (wVar 10) wNil))))) (wTB (wB kIsNot (wL g_is_chain (wCons (wVar 6) (wCons (wVar 10) wNil))) (wC (.bl true))))) (wRet (wC (.bl false))) wNext)
    (wSeqS (wIfS (wAndT (wTB (wB kEq (wVar 3) (wC (.int 0)))) (wTB (wB kEq (wL kLen (wCons (wVar 6) wNil)) (wL kLen (wCons (wVar 2) wNil))))) (wSeqS (wSet 12 (wL kTuple (wCons (wLc [5] (wSeq (wHv 2)) (wN 5) wYes (wIndexT (wVar 6) (wVar 5))) wNil)))
    (wIfS (wTB (wB kNe (wL g_is_chain (wCons (wVar 6) (wCons (wVar 12) wNil))) (wL g__law_is_one (wCons (wVar 6) (wCons (wVar 12) wNil))))) (wRet (wC (.bl false))) wNext)) wNext)
    (wSeqS (wPar 4 13 (wCons (wL g__law_draw (wCons (wVar 0) (wCons (wL kLen (wCons (wVar 6) wNil)) wNil))) (wCons (wL g__law_draw (wCons (wVar 0) (wCons (wL kLen (wCons (wVar 6) wNil)) wNil))) wNil)))
    (wSeqS (wSet 14 (wL kList (wCons (wVar 10) wNil)))
    (wSeqS (wAsg (wTup (wCons (wImm (wB kIx (wVar 14) (wVar 13))) (wCons (wImm (wB kIx (wVar 14) (wVar 4))) wNil))) (wMT2 (wSub 14 (wVar 4)) (wSub 14 (wVar 13))))
    (wRet (wAndV (wB kEq (wL g_is_chain (wCons (wVar 6) (wCons (wL kTuple (wCons (wVar 14) wNil)) wNil))) (wL g__law_is_one (wCons (wVar 6) (wCons (wVar 14) wNil)))) (wAndV (wB kIs (wL g_is_chain (wCons (wVar 6) (wCons (wVar 14) wNil))) (wC (.bl false))) (wB kIs (wL g_is_chain (wCons (wVar 6) (wCons (wSl (wVar 10) (wPart (wC (.int 1))) wNoPart) wNil))) (wC (.bl false)))))))))))))))))
def t6 : WS :=
    (wSeqS (wUnp2 7 8 (wL g__law_odd (wCons (wVar 6) wNil)))
    (wSeqS (wSet 9 (wL g__law_hanging (wCons (wVar 6) wNil)))
    (wSeqS (wPar 10 11 (wCons (wL g_chain (wCons (wVar 6) wNil)) (wCons (wL g_bar (wCons (wVar 6) wNil)) wNil)))
    (wSeqS (wIfS (wOrT (wTB (wB kNe (wB kIsNot (wVar 10) (wC .non)) (wAndV (wVar 8) (wB kEq (wL kLen (wCons (wVar 9) wNil)) (wL kLen (wCons (wVar 6) wNil)))))) (wTB (wB kNe (wB kIs (wVar 11) (wC .non)) (wB kIsNot (wVar 10) (wC .non))))) (wRet (wC (.bl false))) wNext)
    (wSeqS (wIfS (wTB (wB kIs (wVar 10) (wC .non))) (wRet (wB kEq (wVar 11) (wIf (wNotT (wTB (wVar 8))) (wTup (wCons (wC (.str "letters")) (wCons (wImm (wVar 7)) wNil))) (wTup (wCons (wC (.str "apart")) (wCons (wImm (wVar 9)) wNil)))))) wNext)
    (wSeqS (wIfS (wOrT (wNotT (wTB (wL g__law_is_one (wCons (wVar 6) (wCons (wVar 10) wNil))))) (wTB (wB kIsNot (wL g_is_chain (wCons (wVar 6) (wCons (wVar 10) wNil))) (wC (.bl true))))) (wRet (wC (.bl false))) wNext)
    (wSeqS (wIfS (wAndT (wTB (wB kEq (wVar 3) (wC (.int 0)))) (wTB (wB kEq (wL kLen (wCons (wVar 6) wNil)) (wL kLen (wCons (wVar 2) wNil))))) (wSeqS (wSet 12 (wL kTuple (wCons (wLc [5] (wSeq (wHv 2)) (wN 5) wYes (wIndexT (wVar 6) (wVar 5))) wNil)))
    (wIfS (wTB (wB kNe (wL g_is_chain (wCons (wVar 6) (wCons (wVar 12) wNil))) (wL g__law_is_one (wCons (wVar 6) (wCons (wVar 12) wNil))))) (wRet (wC (.bl false))) wNext)) wNext)
    (wSeqS (wPar 4 13 (wCons (wL g__law_draw (wCons (wVar 0) (wCons (wL kLen (wCons (wVar 6) wNil)) wNil))) (wCons (wL g__law_draw (wCons (wVar 0) (wCons (wL kLen (wCons (wVar 6) wNil)) wNil))) wNil)))
    (wSeqS (wSet 14 (wL kList (wCons (wVar 10) wNil)))
    (wSeqS (wAsg (wTup (wCons (wImm (wB kIx (wVar 14) (wVar 13))) (wCons (wImm (wB kIx (wVar 14) (wVar 4))) wNil))) (wMT2 (wSub 14 (wVar 4)) (wSub 14 (wVar 13))))
    (wRet (wAndV (wB kEq (wL g_is_chain (wCons (wVar 6) (wCons (wL kTuple (wCons (wVar 14) wNil)) wNil))) (wL g__law_is_one (wCons (wVar 6) (wCons (wVar 14) wNil)))) (wAndV (wB kIs (wL g_is_chain (wCons (wVar 6) (wCons (wVar 14) wNil))) (wC (.bl false))) (wB kIs (wL g_is_chain (wCons (wVar 6) (wCons (wSl (wVar 10) (wPart (wC (.int 1))) wNoPart) wNil))) (wC (.bl false))))))))))))))))
def t11 : WS :=
    (wSeqS (wIfS (wOrT (wNotT (wTB (wL g__law_is_one (wCons (wVar 6) (wCons (wVar 10) wNil))))) (wTB (wB kIsNot (wL g_is_chain (wCons (wVar 6) (wCons (wVar 10) wNil))) (wC (.bl true))))) (wRet (wC (.bl false))) wNext)
    (wSeqS (wIfS (wAndT (wTB (wB kEq (wVar 3) (wC (.int 0)))) (wTB (wB kEq (wL kLen (wCons (wVar 6) wNil)) (wL kLen (wCons (wVar 2) wNil))))) (wSeqS (wSet 12 (wL kTuple (wCons (wLc [5] (wSeq (wHv 2)) (wN 5) wYes (wIndexT (wVar 6) (wVar 5))) wNil)))
    (wIfS (wTB (wB kNe (wL g_is_chain (wCons (wVar 6) (wCons (wVar 12) wNil))) (wL g__law_is_one (wCons (wVar 6) (wCons (wVar 12) wNil))))) (wRet (wC (.bl false))) wNext)) wNext)
    (wSeqS (wPar 4 13 (wCons (wL g__law_draw (wCons (wVar 0) (wCons (wL kLen (wCons (wVar 6) wNil)) wNil))) (wCons (wL g__law_draw (wCons (wVar 0) (wCons (wL kLen (wCons (wVar 6) wNil)) wNil))) wNil)))
    (wSeqS (wSet 14 (wL kList (wCons (wVar 10) wNil)))
    (wSeqS (wAsg (wTup (wCons (wImm (wB kIx (wVar 14) (wVar 13))) (wCons (wImm (wB kIx (wVar 14) (wVar 4))) wNil))) (wMT2 (wSub 14 (wVar 4)) (wSub 14 (wVar 13))))
    (wRet (wAndV (wB kEq (wL g_is_chain (wCons (wVar 6) (wCons (wL kTuple (wCons (wVar 14) wNil)) wNil))) (wL g__law_is_one (wCons (wVar 6) (wCons (wVar 14) wNil)))) (wAndV (wB kIs (wL g_is_chain (wCons (wVar 6) (wCons (wVar 14) wNil))) (wC (.bl false))) (wB kIs (wL g_is_chain (wCons (wVar 6) (wCons (wSl (wVar 10) (wPart (wC (.int 1))) wNoPart) wNil))) (wC (.bl false)))))))))))
def t12 : WS :=
    (wSeqS (wIfS (wAndT (wTB (wB kEq (wVar 3) (wC (.int 0)))) (wTB (wB kEq (wL kLen (wCons (wVar 6) wNil)) (wL kLen (wCons (wVar 2) wNil))))) (wSeqS (wSet 12 (wL kTuple (wCons (wLc [5] (wSeq (wHv 2)) (wN 5) wYes (wIndexT (wVar 6) (wVar 5))) wNil)))
    (wIfS (wTB (wB kNe (wL g_is_chain (wCons (wVar 6) (wCons (wVar 12) wNil))) (wL g__law_is_one (wCons (wVar 6) (wCons (wVar 12) wNil))))) (wRet (wC (.bl false))) wNext)) wNext)
    (wSeqS (wPar 4 13 (wCons (wL g__law_draw (wCons (wVar 0) (wCons (wL kLen (wCons (wVar 6) wNil)) wNil))) (wCons (wL g__law_draw (wCons (wVar 0) (wCons (wL kLen (wCons (wVar 6) wNil)) wNil))) wNil)))
    (wSeqS (wSet 14 (wL kList (wCons (wVar 10) wNil)))
    (wSeqS (wAsg (wTup (wCons (wImm (wB kIx (wVar 14) (wVar 13))) (wCons (wImm (wB kIx (wVar 14) (wVar 4))) wNil))) (wMT2 (wSub 14 (wVar 4)) (wSub 14 (wVar 13))))
    (wRet (wAndV (wB kEq (wL g_is_chain (wCons (wVar 6) (wCons (wL kTuple (wCons (wVar 14) wNil)) wNil))) (wL g__law_is_one (wCons (wVar 6) (wCons (wVar 14) wNil)))) (wAndV (wB kIs (wL g_is_chain (wCons (wVar 6) (wCons (wVar 14) wNil))) (wC (.bl false))) (wB kIs (wL g_is_chain (wCons (wVar 6) (wCons (wSl (wVar 10) (wPart (wC (.int 1))) wNoPart) wNil))) (wC (.bl false))))))))))
def t13 : WS :=
    (wSeqS (wPar 4 13 (wCons (wL g__law_draw (wCons (wVar 0) (wCons (wL kLen (wCons (wVar 6) wNil)) wNil))) (wCons (wL g__law_draw (wCons (wVar 0) (wCons (wL kLen (wCons (wVar 6) wNil)) wNil))) wNil)))
    (wSeqS (wSet 14 (wL kList (wCons (wVar 10) wNil)))
    (wSeqS (wAsg (wTup (wCons (wImm (wB kIx (wVar 14) (wVar 13))) (wCons (wImm (wB kIx (wVar 14) (wVar 4))) wNil))) (wMT2 (wSub 14 (wVar 4)) (wSub 14 (wVar 13))))
    (wRet (wAndV (wB kEq (wL g_is_chain (wCons (wVar 6) (wCons (wL kTuple (wCons (wVar 14) wNil)) wNil))) (wL g__law_is_one (wCons (wVar 6) (wCons (wVar 14) wNil)))) (wAndV (wB kIs (wL g_is_chain (wCons (wVar 6) (wCons (wVar 14) wNil))) (wC (.bl false))) (wB kIs (wL g_is_chain (wCons (wVar 6) (wCons (wSl (wVar 10) (wPart (wC (.int 1))) wNoPart) wNil))) (wC (.bl false)))))))))
abbrev We (R : D → Prop) : WEnds := { nx := fun _ => R (.v .non), rt := R }
/-! ### _law_is_right, from its end -/
theorem imm_lst_N (ns : List Int) : immL (ns.map N) = true := imm_N ns
theorem isChain_len {ws : List Str} {ns : List Int} (h : isChain ws ns = true) : ns.length = ws.length := by
  unfold isChain at h
  rw [Bool.and_eq_true] at h
  exact isOrd_len h.1
theorem ixN_in {n : Nat} {d : Int} (h0 : 0 ≤ d) (h1 : d < n) : ixN n d = some d.toNat := by
  unfold ixN
  rw [if_pos (by omega)]
  first
  | rw [if_neg (by omega)]
  | rw [if_pos (by omega)]
theorem k_lst_at {ns : List Int} {e : Int} (h0 : 0 ≤ e) (h1 : e < ns.length) : ∃ n, ∀ K : D → Prop, K (N n) → kIx (.lst (ns.map N)) (N e) K := by
  obtain ⟨x, ex, hx⟩ := at_in (l := ns.map N) h0 (by rw [List.length_map]; exact h1)
  obtain ⟨n, _, rfl⟩ := List.mem_map.mp hx
  refine ⟨n, fun K hK => ?_⟩
  unfold kIx kIxO
  simp only [ex]
  exact hK
theorem store_int {ns : List Int} {d x : Int} (h0 : 0 ≤ d) (h1 : d < ns.length) {R : D → Prop} (h : R (.lst ((ns.set d.toNat x).map N))) : storeD (.lst (ns.map N)) (N d) (N x) R := by
  unfold storeD
  simp only [List.length_map, ixN_in h0 h1]
  rw [List.map_set] at h
  exact h
theorem r13 {R : D → Prop} (h : R (B true)) {W : List Str} {ns : List Int} (hb : Book W) (hp : 0 < W.length) (hc : isChain W ns = true) {s1 s2 s3 s4 s5 s7 s8 s9 s11 s12 s13 s14 : Sl} {z : Bool} :
    t13 (We R) [.bor .hand, s1, s2, s3, s4, s5, .own (.tup z (W.map T)), s7, s8, s9, .own (.tup false (ns.map N)), s11, s12, s13, s14] := by
  have ln := isChain_len hc
  have hn := hb.1
  have hdraw : ∀ K : D → Prop, (∀ d : Int, 0 ≤ d → d < W.length → K (N d)) → g__law_draw [.hand, Nn W.length] K := fun K hK => ⟨_, rfl, by omega, by omega, hK⟩
  simp only [t13, wSeqS, wPar, wSet, wAsg, wSeqS, wNext, wSet, wDrop, wRet, wRetV, wRetN, wIfS, wPar, wPar3, wAsg, wUnp2, wVar, wHv, wC, wB, wU, wNil, wCons, wL, wImm, wTup, wLst, wIf, asB, wTB, wAndV, wOrV, wAndT, wOrT, wNotT, wChain, wNoPart, wPart, wSl, wGet, wYes, wN, List.getElem?_cons_zero, List.getElem?_cons_succ, List.set_cons_zero, List.set_cons_succ, List.length_cons, List.length_nil, if_true, if_false, Bool.false_eq_true, ↓reduceIte, kLen, List.length_map]
  refine hdraw _ fun d d0 d1 => ?_
  refine hdraw _ fun e e0 e1 => ?_
  refine ⟨(by decide : (4 : Nat) < 15), (by decide : (13 : Nat) < 15), ?_⟩
  simp only [kList, gath]
  refine ⟨imm_N ns, by rw [List.length_map]; exact Nat.le_of_lt (small1000 (by omega)), (by decide : (14 : Nat) < 15), ?_⟩
  obtain ⟨n1, k1⟩ := k_lst_at (ns := ns) e0 (by omega)
  obtain ⟨n2, k2⟩ := k_lst_at (ns := ns) d0 (by omega)
  refine k1 _ ⟨rfl, k2 _ ⟨rfl, by decide, rfl, ?_⟩⟩
  simp only [wMT2, wSub, ownD, wSeqS, wNext, wSet, wDrop, wRet, wRetV, wRetN, wIfS, wPar, wPar3, wAsg, wUnp2, wVar, wHv, wC, wB, wU, wNil, wCons, wL, wImm, wTup, wLst, wIf, asB, wTB, wAndV, wOrV, wAndT, wOrT, wNotT, wChain, wNoPart, wPart, wSl, wGet, wYes, wN, List.getElem?_cons_zero, List.getElem?_cons_succ, List.set_cons_zero, List.set_cons_succ, List.length_cons, List.length_nil, if_true, if_false, Bool.false_eq_true, ↓reduceIte]
  refine store_int d0 (by omega) ?_
  refine store_int e0 (by rw [List.length_set]; omega) ?_
  generalize hm : (ns.set d.toNat n1).set e.toNat n2 = ms
  have lm : ms.length = W.length := by rw [← hm, List.length_set, List.length_set]; exact ln
  refine ⟨imm_N ms, ?_⟩
  refine ⟨z, W, _, rfl, hb, .inl ⟨false, ms, rfl, by omega, ?_⟩⟩
  refine ⟨z, W, _, ms, rfl, hb, .inl rfl, by omega, ?_⟩
  refine k_eq_bl ?_
  rw [beq_self_eq_true]
  simp only [wSeqS, wNext, wSet, wDrop, wRet, wRetV, wRetN, wIfS, wPar, wPar3, wAsg, wUnp2, wVar, wHv, wC, wB, wU, wNil, wCons, wL, wImm, wTup, wLst, wIf, asB, wTB, wAndV, wOrV, wAndT, wOrT, wNotT, wChain, wNoPart, wPart, wSl, wGet, wYes, wN, List.getElem?_cons_zero, List.getElem?_cons_succ, List.set_cons_zero, List.set_cons_succ, List.length_cons, List.length_nil, if_true, if_false, Bool.false_eq_true, ↓reduceIte]
  refine ⟨z, W, _, rfl, hb, .inr ⟨_, rfl, ?_⟩⟩
  simp only [kIs, decide_true, wSeqS, wNext, wSet, wDrop, wRet, wRetV, wRetN, wIfS, wPar, wPar3, wAsg, wUnp2, wVar, wHv, wC, wB, wU, wNil, wCons, wL, wImm, wTup, wLst, wIf, asB, wTB, wAndV, wOrV, wAndT, wOrT, wNotT, wChain, wNoPart, wPart, wSl, wGet, wYes, wN, List.getElem?_cons_zero, List.getElem?_cons_succ, List.set_cons_zero, List.set_cons_succ, List.length_cons, List.length_nil, if_true, if_false, Bool.false_eq_true, ↓reduceIte]
  refine sl_tail (imm_N ns) fun z' => ?_
  rw [← List.map_drop]
  refine ⟨z, W, _, rfl, hb, .inl ⟨z', ns.drop 1, rfl, by rw [List.length_drop]; omega, ?_⟩⟩
  have e : isChain W (ns.drop 1) = false := by
    cases q : isChain W (ns.drop 1) with
    | false => rfl
    | true =>
      have := isChain_len q
      rw [List.length_drop] at this; omega
  rw [e]
  exact h
theorem r12 {R : D → Prop} (h : R (B true)) {ws W : List Str} {ns : List Int} {kd : Int} (hb : Book W) (hp : 0 < W.length) (hc : isChain W ns = true) (hl : ws.length ≤ 60) (sub : ∀ w ∈ ws, w ∈ W) {s1 s4 s5 s7 s8 s9 s11 s12 s13 s14 : Sl} :
    t12 (We R) [.bor .hand, s1, .own (.lst (ws.map T)), .own (N kd), s4, s5, .own (.tup true (W.map T)), s7, s8, s9, .own (.tup false (ns.map N)), s11, s12, s13, s14] := by
  have last : ∀ {s5 s12 : Sl}, t13 (We R) [.bor .hand, s1, .own (.lst (ws.map T)), .own (N kd), s4, s5, .own (.tup true (W.map T)), s7, s8, s9, .own (.tup false (ns.map N)), s11, s12, s13, s14] := r13 h hb hp hc
  show wIfS _ _ wNext { We R with nx := t13 (We R) } _
  simp only [wIfS, wAndT, wTB, wB, wVar, wC, asB, wNext, wL, wCons, wNil, kLen, List.length_map, List.getElem?_cons_succ, List.getElem?_cons_zero]
  refine k_eq_int ?_
  by_cases h0 : kd = 0
  · rw [decide_eq_true h0]
    simp only [if_true]
    refine k_eq_int ?_
    by_cases h1 : (W.length : Int) = (ws.length : Int)
    · rw [decide_eq_true h1]
      simp only [wSeqS, wNext, wSet, wDrop, wRet, wRetV, wRetN, wIfS, wPar, wPar3, wAsg, wUnp2, wVar, wHv, wC, wB, wU, wNil, wCons, wL, wImm, wTup, wLst, wIf, asB, wTB, wAndV, wOrV, wAndT, wOrT, wNotT, wChain, wNoPart, wPart, wSl, wGet, wYes, wN, List.getElem?_cons_zero, List.getElem?_cons_succ, List.set_cons_zero, List.set_cons_succ, List.length_cons, List.length_nil, if_true, if_false, Bool.false_eq_true, ↓reduceIte, wLc, wLcK, wDc, wDcK, wZip, wSeq, wEnum, wRng1, wRng2, borAll, wipeR, Sl.toBor, List.map_cons, List.map_nil, seqOf]
      refine ⟨imm_T ws, ?_⟩
      refine lcW_mapI T (fun w => Nn (W.idxOf w)) (fun w hw K hK => ?_) (by omega) ?_
      · refine ⟨(by decide : (5 : Nat) < 15), ?_⟩
        simp only [wIndexT, wSeqS, wNext, wSet, wDrop, wRet, wRetV, wRetN, wIfS, wPar, wPar3, wAsg, wUnp2, wVar, wHv, wC, wB, wU, wNil, wCons, wL, wImm, wTup, wLst, wIf, asB, wTB, wAndV, wOrV, wAndT, wOrT, wNotT, wChain, wNoPart, wPart, wSl, wGet, wYes, wN, List.getElem?_cons_zero, List.getElem?_cons_succ, List.set_cons_zero, List.set_cons_succ, List.length_cons, List.length_nil, if_true, if_false, Bool.false_eq_true, ↓reduceIte, kIndex, strsOf_map]
        exact ⟨trivial, sub w hw, hK⟩
      have e : (ws.map fun w => Nn (W.idxOf w)) = (ws.map fun w => ((W.idxOf w : Nat) : Int)).map N := by rw [List.map_map]; rfl
      rw [e]
      refine ⟨imm_N _, (by decide : (12 : Nat) < 15), ?_⟩
      refine ⟨true, W, _, rfl, hb, .inl ⟨false, _, rfl, by rw [List.length_map]; exact hl, ?_⟩⟩
      refine ⟨true, W, _, _, rfl, hb, .inr ⟨false, rfl⟩, by rw [List.length_map]; exact hl, ?_⟩
      refine k_ne_bl ?_
      rw [beq_self_eq_true]
      exact last
    · rw [decide_eq_false h1]
      exact last
  · rw [decide_eq_false h0]
    exact last
theorem r11 {R : D → Prop} (h : R (B true)) {ws W : List Str} {ns : List Int} {kd : Int} (hb : Book W) (hp : 0 < W.length) (hc : isChain W ns = true) (hl : ws.length ≤ 60) (sub : ∀ w ∈ ws, w ∈ W) {s1 s4 s5 s7 s8 s9 s11 s12 s13 s14 : Sl} :
    t11 (We R) [.bor .hand, s1, .own (.lst (ws.map T)), .own (N kd), s4, s5, .own (.tup true (W.map T)), s7, s8, s9, .own (.tup false (ns.map N)), s11, s12, s13, s14] := by
  have last := r12 h (kd := kd) hb hp hc hl sub (s1 := s1) (s4 := s4) (s5 := s5) (s7 := s7) (s8 := s8) (s9 := s9) (s11 := s11) (s12 := s12) (s13 := s13) (s14 := s14)
  have ln := isChain_len hc
  have hn := hb.1
  show wIfS _ _ wNext { We R with nx := t12 (We R) } _
  simp only [wIfS, wOrT, wNotT, wTB, wB, wVar, wC, asB, wNext, wL, wCons, wNil, List.getElem?_cons_succ, List.getElem?_cons_zero]
  refine ⟨true, W, _, ns, rfl, hb, .inr ⟨false, rfl⟩, by omega, ?_⟩
  rw [hc]
  simp only [Bool.not_true, if_false, Bool.false_eq_true]
  refine ⟨true, W, _, rfl, hb, .inl ⟨false, ns, rfl, by omega, ?_⟩⟩
  rw [hc]
  simp only [kIsNot, decide_true, Bool.not_true, if_false, Bool.false_eq_true]
  exact last
theorem eqv_self {d : D} (h : SeqAt.shaped d.py = true) {R : D → Prop} (g : R (B true)) : kEq d d R := ⟨h, h, by rw [SeqAt.eqv_refl _ (SeqAt.canLay_of_shaped h)]; exact g⟩
open Classical in
theorem r6 {R : D → Prop} (h : R (B true)) {ws W : List Str} {kd : Int} (hb : Book W) (hp : 0 < W.length) (hl : ws.length ≤ 60) (sub : ∀ w ∈ ws, w ∈ W) {s1 s4 s5 s7 s8 s9 s10 s11 s12 s13 s14 : Sl} :
    t6 (We R) [.bor .hand, s1, .own (.lst (ws.map T)), .own (N kd), s4, s5, .own (.tup true (W.map T)), s7, s8, s9, s10, s11, s12, s13, s14] := by
  obtain ⟨w, W', rfl⟩ := List.exists_cons_of_ne_nil (List.length_pos_iff.mp hp)
  have hn := hb.1
  have wi := way_iff (e := edW w) (E := W'.map edW)
  have ha := hangs_all (ws := w :: W') (c := hdc w)
  show wUnp2 7 8 _ { We R with nx := wSeqS (wSet 9 _) (wSeqS (wPar 10 11 _) (wSeqS (wIfS _ _ wNext) (wSeqS (wIfS _ _ wNext) t11))) (We R) } _
  refine ⟨true, w :: W', rfl, hb, (by decide : (7 : Nat) < 15), (by decide : (8 : Nat) < 15), ?_⟩
  refine ⟨true, w, W', rfl, hb, (by decide : (9 : Nat) < 15), ?_⟩
  -- the two ifs, by the three ways
  have ifs : ∀ (told paper : D) (even : Bool), (isNone paper = !isNone told) → ((!isNone told) = (even && decide ((hangs (w :: W') (hdc w)).length = (w :: W').length))) →
      (isNone told = true → kEq paper (if even then .tup false [T (Str.ofString "apart"), .tup false ((hangs (w :: W') (hdc w)).map Nn)] else .tup false [T (Str.ofString "letters"), T (oddS ((w :: W').map edW))]) R) →
      (isNone told = false → t11 (We R) [.bor .hand, s1, .own (.lst (ws.map T)), .own (N kd), s4, s5, .own (.tup true ((w :: W').map T)), .own (T (oddS ((w :: W').map edW))), .own (B even), .own (.tup false ((hangs (w :: W') (hdc w)).map Nn)), .own told, .own paper, s12, s13, s14]) →
      wSeqS (wIfS (wOrT (wTB (wB kNe (wB kIsNot (wVar 10) (wC .non)) (wAndV (wVar 8) (wB kEq (wL kLen (wCons (wVar 9) wNil)) (wL kLen (wCons (wVar 6) wNil)))))) (wTB (wB kNe (wB kIs (wVar 11) (wC .non)) (wB kIsNot (wVar 10) (wC .non))))) (wRet (wC (.bl false))) wNext)
        (wSeqS (wIfS (wTB (wB kIs (wVar 10) (wC .non))) (wRet (wB kEq (wVar 11) (wIf (wNotT (wTB (wVar 8))) (wTup (wCons (wC (.str "letters")) (wCons (wImm (wVar 7)) wNil))) (wTup (wCons (wC (.str "apart")) (wCons (wImm (wVar 9)) wNil)))))) wNext) t11) (We R)
        [.bor .hand, s1, .own (.lst (ws.map T)), .own (N kd), s4, s5, .own (.tup true ((w :: W').map T)), .own (T (oddS ((w :: W').map edW))), .own (B even), .own (.tup false ((hangs (w :: W') (hdc w)).map Nn)), .own told, .own paper, s12, s13, s14] := by
    intro told paper even h1 h2 h3 h4
    have kin : ∀ K : D → Prop, K (B (!isNone told)) → kIsNot told (.v .non) K := fun K hK => by
      unfold kIsNot
      exact hK
    have kis : ∀ (d : D) (K : D → Prop), K (B (isNone d)) → kIs d (.v .non) K := fun d K hK => by
      unfold kIs
      exact hK
    show wIfS _ _ wNext { We R with nx := wSeqS (wIfS _ _ wNext) t11 (We R) } _
    have tail : wSeqS (wIfS (wTB (wB kIs (wVar 10) (wC .non))) (wRet (wB kEq (wVar 11) (wIf (wNotT (wTB (wVar 8))) (wTup (wCons (wC (.str "letters")) (wCons (wImm (wVar 7)) wNil))) (wTup (wCons (wC (.str "apart")) (wCons (wImm (wVar 9)) wNil)))))) wNext) t11 (We R)
        [.bor .hand, s1, .own (.lst (ws.map T)), .own (N kd), s4, s5, .own (.tup true ((w :: W').map T)), .own (T (oddS ((w :: W').map edW))), .own (B even), .own (.tup false ((hangs (w :: W') (hdc w)).map Nn)), .own told, .own paper, s12, s13, s14] := by
      show wIfS _ _ wNext { We R with nx := t11 (We R) } _
      simp only [wIfS, wTB, wB, wVar, wC, asB, wNext, List.getElem?_cons_succ, List.getElem?_cons_zero]
      refine kis told _ ?_
      cases e : isNone told with
      | false => exact h4 e
      | true =>
        simp only [if_true, wRet, wB, wVar, wIf, wNotT, wTB, asB, wTup, wCons, wC, wImm, wNil, List.getElem?_cons_succ, List.getElem?_cons_zero, List.length_cons, List.length_nil]
        have h3 := h3 e
        cases even with
        | false => exact ⟨rfl, by decide, h3⟩
        | true => exact ⟨imm_Nn _, by decide, h3⟩
    simp only [wIfS, wOrT, wAndV, wTB, wB, wVar, wC, asB, wL, wCons, wNil, kLen, List.length_map, List.getElem?_cons_succ, List.getElem?_cons_zero]
    refine kin _ ?_
    have le : decide (((hangs (w :: W') (hdc w)).length : Int) = ((w :: W').length : Int)) = decide ((hangs (w :: W') (hdc w)).length = (w :: W').length) := decide_eq_decide.mpr ⟨fun z => by omega, fun z => by omega⟩
    cases even with
    | false =>
      simp only [Bool.false_eq_true, if_false]
      refine k_ne_bl ?_
      rw [Bool.false_and] at h2
      rw [h2]
      simp only [beq_self_eq_true, Bool.not_true, if_false, Bool.false_eq_true]
      refine kis paper _ ?_
      refine kin _ ?_
      refine k_ne_bl ?_
      rw [h1, beq_self_eq_true]
      exact tail
    | true =>
      simp only [if_true]
      refine k_eq_int ?_
      rw [le]
      rw [Bool.true_and] at h2
      refine k_ne_bl ?_
      rw [h2, beq_self_eq_true]
      simp only [beq_self_eq_true, Bool.not_true, if_false, Bool.false_eq_true]
      refine kis paper _ ?_
      refine kin _ ?_
      refine k_ne_bl ?_
      rw [h1, beq_self_eq_true]
      exact tail
  have lowE : ∀ c ∈ (oddS ((w :: W').map edW)).cps.toList, 97 ≤ c ∧ c ≤ 122 := fun c hc => by
    have hc : c ∈ oddL ((w :: W').map edW) := hc
    obtain ⟨i, hi, rfl⟩ := List.mem_map.mp (List.mem_filter.mp hc).1
    rw [List.mem_range] at hi
    show 97 ≤ 97 + i ∧ 97 + i ≤ 122
    omega
  have okT : ∀ s : Str, (PyData.str s).canLay0 = true → flatOk (T s) := fun s h => ⟨h, rfl⟩
  refine ⟨true, w :: W', rfl, hb, fun hway ns' hns _ => ?_, fun hno => ?_⟩
  · generalize (ns'.map fun (i : Nat) => (i : Int)) = ns at hns
    have hev : Even ((w :: W').map edW) := (wi.mp hway).1
    have hcn := ha.mpr (wi.mp hway).2
    refine ⟨true, w, W', rfl, hb, fun _ => ?_, fun n => absurd hev n, fun _ n => absurd hway n⟩
    refine ⟨(by decide : (10 : Nat) < 15), (by decide : (11 : Nat) < 15), ?_⟩
    rw [decide_eq_true hev]
    refine ifs (.tup false (ns.map N)) (.v .non) true rfl ?_ (fun z => nomatch z) (fun _ => ?_)
    · rw [decide_eq_true hcn]; rfl
    · exact r11 h hb hp hns hl sub
  · refine ⟨true, w, W', rfl, hb, fun n => absurd n hno, fun he => ?_, fun he _ => ?_⟩
    · refine ⟨(by decide : (10 : Nat) < 15), (by decide : (11 : Nat) < 15), ?_⟩
      rw [decide_eq_false he]
      refine ifs (.v .non) _ false rfl rfl (fun _ => ?_) (fun z => nomatch z)
      refine eqv_self (shaped_tup fun d hd => ?_) h
      rcases List.mem_cons.mp hd with rfl | hd
      · exact okT _ (by decide +kernel)
      · rw [List.mem_singleton] at hd; subst hd; exact okT _ (ok_of_low lowE)
    · refine ⟨(by decide : (10 : Nat) < 15), (by decide : (11 : Nat) < 15), ?_⟩
      rw [decide_eq_true he]
      refine ifs (.v .non) _ true rfl ?_ (fun _ => ?_) (fun z => nomatch z)
      · rw [decide_eq_false fun q => hno (wi.mpr ⟨he, ha.mp q⟩)]; rfl
      · refine eqv_self ?_ h
        have h1 : (D.tup false [T (Str.ofString "apart"), .tup false ((hangs (w :: W') (hdc w)).map Nn)]).py.canLay0 = true := lay_all (ds := [T (Str.ofString "apart"), .tup false ((hangs (w :: W') (hdc w)).map Nn)]) fun d hd => by
          rcases List.mem_cons.mp hd with rfl | hd
          · exact (by decide +kernel)
          · rw [List.mem_singleton] at hd
            subst hd
            exact lay_all fun e he => by obtain ⟨i, _, rfl⟩ := List.mem_map.mp he; rfl
        have h2 : (D.tup false [T (Str.ofString "apart"), .tup false ((hangs (w :: W') (hdc w)).map Nn)]).py.depth ≤ 64 := by
          show PyData.depthAll (pyL [T (Str.ofString "apart"), .tup false ((hangs (w :: W') (hdc w)).map Nn)]) + 1 ≤ 64
          have := depth_all (n := 1) (ds := [T (Str.ofString "apart"), .tup false ((hangs (w :: W') (hdc w)).map Nn)]) fun d hd => by
            rcases List.mem_cons.mp hd with rfl | hd
            · exact Nat.zero_le _
            · rw [List.mem_singleton] at hd
              subst hd
              show PyData.depthAll (pyL ((hangs (w :: W') (hdc w)).map Nn)) + 1 ≤ 1
              have := depth_all (n := 0) (ds := (hangs (w :: W') (hdc w)).map Nn) fun e he => by obtain ⟨i, _, rfl⟩ := List.mem_map.mp he; exact Nat.le_refl _
              omega
          omega
        unfold SeqAt.shaped
        rw [h1, decide_eq_true h2]; rfl
end K20

namespace K20
open PySem PySem.Spec PyProof.Rows L2 PL
def t3 : WS :=
    (wSeqS (wIfS (wTB (wB kEq (wVar 3) (wC (.int 1)))) (wSeqS (wSet 4 (wL g__law_draw (wCons (wVar 0) (wCons (wL kLen (wCons (wVar 2) wNil)) wNil))))
    (wStore 2 (wVar 4) (wU kRevS (wB kIx (wVar 2) (wVar 4))))) wNext)
    (wSeqS (wIfS (wTB (wB kEq (wVar 3) (wC (.int 2)))) (wSet 2 (wB kAdd (wSl (wVar 2) wNoPart (wPart (wC (.int 25)))) (wL g__law_walk (wCons (wVar 0) (wCons (wC (.str "mn")) (wCons (wC (.int 12)) wNil)))))) wNext)
    (wSeqS (wSet 6 (wSl (wL kTupZ (wCons (wL kSorted (wCons (wL kDict (wCons (wLc [5] (wSeq (wHv 2)) (wN 5) wYes (wTup (wCons (wImm (wVar 5)) (wCons (wC (.bl true)) wNil)))) wNil)) wNil)) wNil)) wNoPart (wPart (wC (.int 60)))))
    (wSeqS (wUnp2 7 8 (wL g__law_odd (wCons (wVar 6) wNil)))
    (wSeqS (wSet 9 (wL g__law_hanging (wCons (wVar 6) wNil)))
    (wSeqS (wPar 10 11 (wCons (wL g_chain (wCons (wVar 6) wNil)) (wCons (wL g_bar (wCons (wVar 6) wNil)) wNil)))
    (wSeqS (wIfS (wOrT (wTB (wB kNe (wB kIsNot (wVar 10) (wC .non)) (wAndV (wVar 8) (wB kEq (wL kLen (wCons (wVar 9) wNil)) (wL kLen (wCons (wVar 6) wNil)))))) (wTB (wB kNe (wB kIs (wVar 11) (wC .non)) (wB kIsNot (wVar 10) (wC .non))))) (wRet (wC (.bl false))) wNext)
    (wSeqS (wIfS (wTB (wB kIs (wVar 10) (wC .non))) (wRet (wB kEq (wVar 11) (wIf (wNotT (wTB (wVar 8))) (wTup (wCons (wC (.str "letters")) (wCons (wImm (wVar 7)) wNil))) (wTup (wCons (wC (.str "apart")) (wCons (wImm (wVar 9)) wNil)))))) wNext)
    (wSeqS (wIfS (wOrT (wNotT (wTB (wL g__law_is_one (wCons (wVar 6) (wCons (wVar 10) wNil))))) (wTB (wB kIsNot (wL g_is_chain (wCons (wVar 6) (wCons (wVar 10) wNil))) (wC (.bl true))))) (wRet (wC (.bl false))) wNext)
    (wSeqS (wIfS (wAndT (wTB (wB kEq (wVar 3) (wC (.int 0)))) (wTB (wB kEq (wL kLen (wCons (wVar 6) wNil)) (wL kLen (wCons (wVar 2) wNil))))) (wSeqS (wSet 12 (wL kTuple (wCons (wLc [5] (wSeq (wHv 2)) (wN 5) wYes (wIndexT (wVar 6) (wVar 5))) wNil)))
    (wIfS (wTB (wB kNe (wL g_is_chain (wCons (wVar 6) (wCons (wVar 12) wNil))) (wL g__law_is_one (wCons (wVar 6) (wCons (wVar 12) wNil))))) (wRet (wC (.bl false))) wNext)) wNext)
    (wSeqS (wPar 4 13 (wCons (wL g__law_draw (wCons (wVar 0) (wCons (wL kLen (wCons (wVar 6) wNil)) wNil))) (wCons (wL g__law_draw (wCons (wVar 0) (wCons (wL kLen (wCons (wVar 6) wNil)) wNil))) wNil)))
    (wSeqS (wSet 14 (wL kList (wCons (wVar 10) wNil)))
    (wSeqS (wAsg (wTup (wCons (wImm (wB kIx (wVar 14) (wVar 13))) (wCons (wImm (wB kIx (wVar 14) (wVar 4))) wNil))) (wMT2 (wSub 14 (wVar 4)) (wSub 14 (wVar 13))))
    (wRet (wAndV (wB kEq (wL g_is_chain (wCons (wVar 6) (wCons (wL kTuple (wCons (wVar 14) wNil)) wNil))) (wL g__law_is_one (wCons (wVar 6) (wCons (wVar 14) wNil)))) (wAndV (wB kIs (wL g_is_chain (wCons (wVar 6) (wCons (wVar 14) wNil))) (wC (.bl false))) (wB kIs (wL g_is_chain (wCons (wVar 6) (wCons (wSl (wVar 10) (wPart (wC (.int 1))) wNoPart) wNil))) (wC (.bl false)))))))))))))))))))
def t4 : WS :=
    (wSeqS (wIfS (wTB (wB kEq (wVar 3) (wC (.int 2)))) (wSet 2 (wB kAdd (wSl (wVar 2) wNoPart (wPart (wC (.int 25)))) (wL g__law_walk (wCons (wVar 0) (wCons (wC (.str "mn")) (wCons (wC (.int 12)) wNil)))))) wNext)
    (wSeqS (wSet 6 (wSl (wL kTupZ (wCons (wL kSorted (wCons (wL kDict (wCons (wLc [5] (wSeq (wHv 2)) (wN 5) wYes (wTup (wCons (wImm (wVar 5)) (wCons (wC (.bl true)) wNil)))) wNil)) wNil)) wNil)) wNoPart (wPart (wC (.int 60)))))
    (wSeqS (wUnp2 7 8 (wL g__law_odd (wCons (wVar 6) wNil)))
    (wSeqS (wSet 9 (wL g__law_hanging (wCons (wVar 6) wNil)))
    (wSeqS (wPar 10 11 (wCons (wL g_chain (wCons (wVar 6) wNil)) (wCons (wL g_bar (wCons (wVar 6) wNil)) wNil)))
    (wSeqS (wIfS (wOrT (wTB (wB kNe (wB kIsNot (wVar 10) (wC .non)) (wAndV (wVar 8) (wB kEq (wL kLen (wCons (wVar 9) wNil)) (wL kLen (wCons (wVar 6) wNil)))))) (wTB (wB kNe (wB kIs (wVar 11) (wC .non)) (wB kIsNot (wVar 10) (wC .non))))) (wRet (wC (.bl false))) wNext)
    (wSeqS (wIfS (wTB (wB kIs (wVar 10) (wC .non))) (wRet (wB kEq (wVar 11) (wIf (wNotT (wTB (wVar 8))) (wTup (wCons (wC (.str "letters")) (wCons (wImm (wVar 7)) wNil))) (wTup (wCons (wC (.str "apart")) (wCons (wImm (wVar 9)) wNil)))))) wNext)
    (wSeqS (wIfS (wOrT (wNotT (wTB (wL g__law_is_one (wCons (wVar 6) (wCons (wVar 10) wNil))))) (wTB (wB kIsNot (wL g_is_chain (wCons (wVar 6) (wCons (wVar 10) wNil))) (wC (.bl true))))) (wRet (wC (.bl false))) wNext)
    (wSeqS (wIfS (wAndT (wTB (wB kEq (wVar 3) (wC (.int 0)))) (wTB (wB kEq (wL kLen (wCons (wVar 6) wNil)) (wL kLen (wCons (wVar 2) wNil))))) (wSeqS (wSet 12 (wL kTuple (wCons (wLc [5] (wSeq (wHv 2)) (wN 5) wYes (wIndexT (wVar 6) (wVar 5))) wNil)))
    (wIfS (wTB (wB kNe (wL g_is_chain (wCons (wVar 6) (wCons (wVar 12) wNil))) (wL g__law_is_one (wCons (wVar 6) (wCons (wVar 12) wNil))))) (wRet (wC (.bl false))) wNext)) wNext)
    (wSeqS (wPar 4 13 (wCons (wL g__law_draw (wCons (wVar 0) (wCons (wL kLen (wCons (wVar 6) wNil)) wNil))) (wCons (wL g__law_draw (wCons (wVar 0) (wCons (wL kLen (wCons (wVar 6) wNil)) wNil))) wNil)))
    (wSeqS (wSet 14 (wL kList (wCons (wVar 10) wNil)))
    (wSeqS (wAsg (wTup (wCons (wImm (wB kIx (wVar 14) (wVar 13))) (wCons (wImm (wB kIx (wVar 14) (wVar 4))) wNil))) (wMT2 (wSub 14 (wVar 4)) (wSub 14 (wVar 13))))
    (wRet (wAndV (wB kEq (wL g_is_chain (wCons (wVar 6) (wCons (wL kTuple (wCons (wVar 14) wNil)) wNil))) (wL g__law_is_one (wCons (wVar 6) (wCons (wVar 14) wNil)))) (wAndV (wB kIs (wL g_is_chain (wCons (wVar 6) (wCons (wVar 14) wNil))) (wC (.bl false))) (wB kIs (wL g_is_chain (wCons (wVar 6) (wCons (wSl (wVar 10) (wPart (wC (.int 1))) wNoPart) wNil))) (wC (.bl false))))))))))))))))))
theorem str_le (a b : Str) : (!strLt b a) = true ↔ a.cps.toList ≤ b.cps.toList := by
  unfold strLt
  rw [Bool.not_eq_true', decide_eq_false_iff_not]
  exact List.not_lt
theorem strs_sorted (L : List Str) : (L.mergeSort fun a b => !strLt b a).Pairwise fun a b => (!strLt b a) = true :=
  List.pairwise_mergeSort (fun a b c h1 h2 => (str_le a c).mpr (List.le_trans ((str_le a b).mp h1) ((str_le b c).mp h2)))
    (fun a b => by
      rcases List.le_total a.cps.toList b.cps.toList with h | h
      · rw [(str_le a b).mpr h]; rfl
      · rw [(str_le b a).mpr h, Bool.or_true]) L
theorem strs_strict {L : List Str} (nd : L.Nodup) : (L.mergeSort fun a b => !strLt b a).Pairwise fun a b => strLt a b = true := by
  have n2 : (L.mergeSort fun a b => !strLt b a).Nodup := (List.mergeSort_perm ..).nodup_iff.mpr nd
  refine (List.pairwise_and_iff.mpr ⟨strs_sorted L, n2⟩).imp fun {a b} h => ?_
  obtain ⟨h1, h2⟩ := h
  cases e : strLt a b with
  | true => rfl
  | false =>
    have l1 := (str_le a b).mp h1
    have l2 := (str_le b a).mp (by rw [e]; rfl)
    exact absurd (str_ext (List.le_antisymm l1 l2)) h2
theorem merge_ks : ∀ (M : List Str) {S : List Str}, S.Nodup → ∃ S' : List Str, S'.Nodup ∧ (∀ x, x ∈ S' ↔ x ∈ S ∨ x ∈ M) ∧ mergeD (S.map ks) (S.map fun _ => B true) (M.map fun c => (ks c, B true)) = (S'.map ks, S'.map fun _ => B true)
  | [], S, nd => ⟨S, nd, fun x => by simp, rfl⟩
  | c :: M, S, nd => by
    have put : ∃ S1 : List Str, S1.Nodup ∧ (∀ x, x ∈ S1 ↔ x ∈ S ∨ x = c) ∧ putD (S.map ks) (S.map fun _ => B true) (ks c) (B true) = (S1.map ks, S1.map fun _ => B true) := by
      refine ⟨if c ∈ S then S else S ++ [c], ?_, fun x => ?_, ?_⟩
      · by_cases m : c ∈ S
        · rw [if_pos m]; exact nd
        · rw [if_neg m]; exact List.nodup_append.mpr ⟨nd, by simp, fun x hx y hy z => m (by rw [List.mem_singleton] at hy; rw [← hy, ← z]; exact hx)⟩
      · by_cases m : c ∈ S
        · rw [if_pos m]; exact ⟨.inl, fun z => z.elim id fun z => z ▸ m⟩
        · rw [if_neg m]; simp
      · rw [putD_map ks ks_inj (fun _ => B true) c (B true) S nd]
        have e : (fun x : Str => if x = c then B true else B true) = fun _ => B true := by funext x; split <;> rfl
        rw [e]
    obtain ⟨S1, n1, m1, e1⟩ := put
    obtain ⟨S2, n2, m2, e2⟩ := merge_ks M n1
    refine ⟨S2, n2, fun x => by rw [m2, m1, List.mem_cons, or_assoc], ?_⟩
    show mergeD (putD (S.map ks) (S.map fun _ => B true) (ks c) (B true)).1 (putD (S.map ks) (S.map fun _ => B true) (ks c) (B true)).2 _ = _
    rw [e1]
    exact e2
theorem pairs_ws (ws : List Str) : pairsD (ws.map fun w => .tup false [T w, B true]) = some (ws.map fun w => (ks w, B true)) := by
  induction ws with
  | nil => rfl
  | cons w ws ih => rw [List.map_cons, pairsD, ih]; rfl
theorem r5 {R : D → Prop} (h : R (B true)) {ws : List Str} {kd : Int} (hw : ∀ w ∈ ws, Wd w) (hp : ws ≠ []) (hl : ws.length ≤ 60) {s1 s4 s5 s6 s7 s8 s9 s10 s11 s12 s13 s14 : Sl} :
    t5 (We R) [.bor .hand, s1, .own (.lst (ws.map T)), .own (N kd), s4, s5, s6, s7, s8, s9, s10, s11, s12, s13, s14] := by
  show wSet 6 (wSl _ _ _) { We R with nx := t6 (We R) } _
  simp only [wSet, wSeqS, wNext, wSet, wDrop, wRet, wRetV, wRetN, wIfS, wPar, wPar3, wAsg, wUnp2, wVar, wHv, wC, wB, wU, wNil, wCons, wL, wImm, wTup, wLst, wIf, asB, wTB, wAndV, wOrV, wAndT, wOrT, wNotT, wChain, wNoPart, wPart, wSl, wGet, wYes, wN, List.getElem?_cons_zero, List.getElem?_cons_succ, List.set_cons_zero, List.set_cons_succ, List.length_cons, List.length_nil, if_true, if_false, Bool.false_eq_true, ↓reduceIte, wLc, wLcK, wDc, wDcK, wZip, wSeq, wEnum, wRng1, wRng2, borAll, wipeR, Sl.toBor, List.map_cons, List.map_nil, seqOf]
  refine ⟨imm_T ws, ?_⟩
  refine lcW_mapI T (fun w => .tup false [T w, B true]) (fun w hm K hK => ?_) (by omega) ?_
  · exact ⟨(by decide : (5 : Nat) < 15), rfl, (show 2 ≤ sizeLine by decide), hK⟩
  refine ⟨immL_map _ (fun _ => rfl) ws, ?_⟩
  rw [pairs_ws]
  obtain ⟨L, nd, mem, e⟩ := merge_ks ws (S := []) List.nodup_nil
  have e' : mergeD [] [] (ws.map fun w => (ks w, B true)) = (L.map ks, L.map fun _ => B true) := e
  simp only [e']
  have memL : ∀ w, w ∈ L ↔ w ∈ ws := fun w => by rw [mem]; simp
  have lL : L.length ≤ ws.length := nodup_len nd fun w hw => (memL w).mp hw
  refine k_sorted_strs (ws := L) (by show some ((L.map ks).map keyD) = _; rw [List.map_map]; rfl) (by omega) (fun w hm => ok_of_low (hw w ((memL w).mp hm)).2.2) ?_
  generalize hW : (L.mergeSort fun a b => !strLt b a) = W
  have pW : W.Perm L := by rw [← hW]; exact List.mergeSort_perm ..
  have lW : W.length = L.length := pW.length_eq
  have hb : Book W := ⟨by omega, fun w hm => hw w ((memL w).mp (pW.mem_iff.mp hm)), by rw [← hW]; exact strs_strict nd⟩
  have pos : 0 < W.length := by
    obtain ⟨w, hm⟩ := List.exists_mem_of_ne_nil ws hp
    exact List.length_pos_of_mem (pW.mem_iff.mpr ((memL w).mpr hm))
  refine ⟨imm_T W, ?_⟩
  have fin := r6 h (kd := kd) (ws := ws) hb pos hl (fun w hm => pW.mem_iff.mpr ((memL w).mpr hm)) (s1 := s1) (s4 := s4) (s5 := s5) (s7 := s7) (s8 := s8) (s9 := s9) (s10 := s10) (s11 := s11) (s12 := s12) (s13 := s13) (s14 := s14)
  refine ⟨imm_T W, fun _ => ⟨(by decide : (6 : Nat) < 15), fin⟩, fun n => absurd ⟨rfl, ?_⟩ n⟩
  rw [show (60 : Int) = ((60 : Nat) : Int) from rfl, HT.sIx_nat, List.length_map]
  omega
theorem take25 {α : Type} (xs : List α) : cutL xs none (some 25) = xs.take 25 := cut_front xs 25
theorem r4 {R : D → Prop} (h : R (B true)) {ws : List Str} {kd : Int} (hw : ∀ w ∈ ws, Wd w) (hp : ws ≠ []) (hl : ws.length ≤ 60) {s1 s4 s5 s6 s7 s8 s9 s10 s11 s12 s13 s14 : Sl} :
    t4 (We R) [.bor .hand, s1, .own (.lst (ws.map T)), .own (N kd), s4, s5, s6, s7, s8, s9, s10, s11, s12, s13, s14] := by
  show wIfS _ _ wNext { We R with nx := t5 (We R) } _
  simp only [wIfS, wTB, wB, wVar, wC, asB, wNext, List.getElem?_cons_succ, List.getElem?_cons_zero]
  refine k_eq_int ?_
  by_cases e : kd = 2
  · rw [decide_eq_true e]
    simp only [if_true]
    simp only [wSet, wSl, wB, wL, wCons, wNil, wNoPart, wPart, wVar, wC, List.getElem?_cons_succ, List.getElem?_cons_zero, List.set_cons_succ, List.set_cons_zero]
    refine ⟨imm_T ws, ?_⟩
    rw [take25, ← List.map_take]
    refine ⟨Str.ofString "mn", 12, rfl, fun c hc => ?_, by decide, by decide, by decide, by decide, fun vs hv lv wv => ?_⟩
    · have : ∀ c ∈ (Str.ofString "mn").cps.toList, 97 ≤ c ∧ c ≤ 122 := by decide +kernel
      exact this c hc
    refine ⟨imm_T _, imm_T _, by rw [List.length_map, List.length_map, List.length_take]; exact Nat.le_of_lt (small1000 (by omega)), (by decide : (2 : Nat) < 15), ?_⟩
    rw [← List.map_append]
    refine r5 h (fun w hm => ?_) (fun z => hv (List.append_eq_nil_iff.mp z).2) (by rw [List.length_append, List.length_take]; omega)
    rcases List.mem_append.mp hm with q | q
    · exact hw w (List.mem_of_mem_take q)
    · exact wv w q
  · rw [decide_eq_false e]
    exact r5 h hw hp hl
theorem rev_wd {w : Str} (hw : Wd w) : Wd (revS w) := by
  have e : (revS w).length = w.length := by
    show w.cps.toList.reverse.toArray.size = _
    rw [List.size_toArray, List.length_reverse, Array.length_toList]; rfl
  refine ⟨by rw [e]; exact hw.1, by rw [e]; exact hw.2.1, fun c hc => hw.2.2 c ?_⟩
  have : c ∈ w.cps.toList.reverse := hc
  exact List.mem_reverse.mp this
theorem r3 {R : D → Prop} (h : R (B true)) {ws : List Str} {kd : Int} (hw : ∀ w ∈ ws, Wd w) (hp : ws ≠ []) (hl : ws.length ≤ 60) {s1 s4 s5 s6 s7 s8 s9 s10 s11 s12 s13 s14 : Sl} :
    t3 (We R) [.bor .hand, s1, .own (.lst (ws.map T)), .own (N kd), s4, s5, s6, s7, s8, s9, s10, s11, s12, s13, s14] := by
  show wIfS _ _ wNext { We R with nx := t4 (We R) } _
  simp only [wIfS, wTB, wB, wVar, wC, asB, wNext, List.getElem?_cons_succ, List.getElem?_cons_zero]
  have pos := List.length_pos_iff.mpr hp
  refine k_eq_int ?_
  by_cases e : kd = 1
  · rw [decide_eq_true e]
    simp only [if_true]
    simp only [wSeqS, wSet, wStore, wU, wB, wL, wCons, wNil, wVar, ownD, kLen, List.length_map, List.getElem?_cons_succ, List.getElem?_cons_zero, List.set_cons_succ, List.set_cons_zero]
    refine ⟨_, rfl, by omega, by omega, fun d d0 d1 => ⟨(by decide : (4 : Nat) < 15), ?_⟩⟩
    obtain ⟨x, ex, hx⟩ := at_in (l := ws.map T) d0 (by rw [List.length_map]; exact d1)
    obtain ⟨w, hm, rfl⟩ := List.mem_map.mp hx
    have look : ∀ K : D → Prop, K (T w) → kIx (.lst (ws.map T)) (N d) K := fun K hK => by
      unfold kIx kIxO
      simp only [ex]
      exact hK
    refine look _ ⟨Nat.le_trans (hw w hm).2.1 (by decide), ?_⟩
    unfold storeD
    simp only [List.length_map, ixN_in d0 d1]
    rw [← List.map_set]
    refine r4 h (fun v hv => ?_) (fun z => ?_) (by rw [List.length_set]; exact hl)
    · rcases List.mem_or_eq_of_mem_set hv with q | q
      · exact hw v q
      · rw [q]; exact rev_wd (hw w hm)
    · have := congrArg List.length z
      rw [List.length_set] at this
      simp at this
      exact hp this
  · rw [decide_eq_false e]
    exact r4 h hw hp hl
theorem l__law_is_right : ∀ ds R, g__law_is_right ds R → w__law_is_right { nx := fun _ => R (.v .non), rt := R } (startR ["hand", "letters", "words", "kind", "at", "word", "book", "odd", "can", "lot", "told", "paper", "own", "to", "row"] ds) := by
  rintro ds R ⟨rfl, h⟩
  change w__law_is_right _ [.bor .hand, .no, .no, .no, .no, .no, .no, .no, .no, .no, .no, .no, .no, .no, .no]
  show wSet 1 _ { We R with nx := wSeqS (wSet 2 _) (wSeqS (wSet 3 _) t3) (We R) } _
  simp only [wSet, wL, wCons, wNil, wVar, wC, wLst, List.getElem?_cons_succ, List.getElem?_cons_zero, List.length_cons, List.length_nil]
  refine ⟨by decide, _, rfl, .inl ⟨_, rfl, rfl, by decide, by decide, fun x hx => ?_⟩⟩
  have hn : ∃ n : Nat, x = Nn n ∧ 1 ≤ n ∧ n ≤ 26 := by
    simp only [List.mem_cons, List.not_mem_nil, or_false] at hx
    rcases hx with rfl | rfl | rfl | rfl
    · exact ⟨2, rfl, by decide, by decide⟩
    · exact ⟨3, rfl, by decide, by decide⟩
    · exact ⟨5, rfl, by decide, by decide⟩
    · exact ⟨26, rfl, by decide, by decide⟩
  obtain ⟨n, rfl, n1, n2⟩ := hn
  refine ⟨n, rfl, n1, n2, fun z hz lz => ⟨(by decide : (1 : Nat) < 15), ?_⟩⟩
  show wSet 2 _ { We R with nx := wSeqS (wSet 3 _) t3 (We R) } _
  simp only [wSet, wL, wCons, wNil, wVar, wC, wB, List.getElem?_cons_succ, List.getElem?_cons_zero, List.set_cons_succ, List.set_cons_zero]
  refine ⟨_, rfl, by decide, by decide, fun d d0 d1 => ?_⟩
  obtain ⟨j, rfl⟩ := Int.eq_ofNat_of_zero_le d0
  simp only [kAdd]
  refine ⟨z, 40 + j, by rw [show ((40 : Int) + (j : Int)) = ((40 + j : Nat) : Int) by omega], hz, by omega, by omega, by omega, by omega, fun ws hp hl hw => ⟨(by decide : (2 : Nat) < 15), ?_⟩⟩
  show wSet 3 _ { We R with nx := t3 (We R) } _
  simp only [wSet, wL, wCons, wNil, wVar, wC, List.getElem?_cons_succ, List.getElem?_cons_zero, List.set_cons_succ, List.set_cons_zero]
  refine ⟨_, rfl, by decide, by decide, fun k k0 k1 => ⟨(by decide : (3 : Nat) < 15), ?_⟩⟩
  exact r3 h hw hp (by omega)
end K20

set_option maxHeartbeats 4000000
namespace K20
open PySem PySem.Spec PyProof.Rows L2 PL
/-! ### _law_draw, by the heap -/
abbrev s__law_draw : Stmt := topS 26
theorem sc__law_draw : FnScope ["hand", "many", "cell", "digit", "number"] ["hand", "many"] (defScope s__law_draw) := ⟨rfl, rfl, rfl, by decide +kernel, rfl, by decide +kernel, by decide +kernel⟩
section
variable {h : Hd} {K : PySem.W.Frag} {σ : L2.St} {H : Hp} {Q : VK} {xs : List V} {v : V} {j : Int}
abbrev tHx (K : PySem.W.Frag) (j : Int) : TE := tOp (rIxL K) (tVar 0) (tC (.int j))
abbrev gHx (j : Int) : TG := gSub (tVar 0) (tC (.int j)) rSetL
theorem hx (hσ : σ[0]? = some (some (.ref h.p))) (hp : H h.p = some (.lst xs)) (ha : atI xs j = some v) (q : Q v H) : tHx K j σ H Q := ⟨_, hσ, _, xs, j, v, rfl, rfl, .inl (.inl hp), ha, q⟩
theorem hst {k : Nat} {Q : L2.St → Hp → Prop} (hσ : σ[0]? = some (some (.ref h.p))) (hp : H h.p = some (.lst xs)) (hk : ixN xs.length j = some k) (q : Q σ (upd H h.p (.lst (xs.set k v)))) : gHx j v σ H Q := ⟨_, hσ, _, xs, j, k, rfl, rfl, hp, hk, q⟩
theorem keep_hand {G : Hp} (k : Keep h G H) (ho : HandOk h H) {i g m n : Int} (h0 : 0 ≤ i) (h1 : 0 ≤ g) (h2 : 0 ≤ m) (h3 : 0 ≤ n) : Keep h G (upd H h.p (.lst [.ref h.c, .int i, .int g, .int m, .int n])) ∧ HandOk h (upd H h.p (.lst [.ref h.c, .int i, .int g, .int m, .int n])) := by
  obtain ⟨a, b, c, i', g', m', k', _, _, _, _, d⟩ := ho
  have ok : HandOk h (upd H h.p (.lst [.ref h.c, .int i, .int g, .int m, .int n])) := ⟨a, b, by rw [upd_ne (Ne.symm a)]; exact c, i, g, m, n, h0, h1, h2, h3, upd_same⟩
  refine ⟨⟨fun x y e ne => by rw [upd_ne ne]; exact k.same x y e ne, fun _ => ok, fun z b xs t => upd_tup d (fun _ z => nomatch z) (fun _ _ z => nomatch z) (k.tup z b xs t)⟩, ok⟩
end
theorem at_inI {α : Type} {l : List α} {d : Int} (h0 : 0 ≤ d) (h1 : d < l.length) : ∃ x, atI l d = some x ∧ x ∈ l := by
  obtain ⟨j, rfl⟩ := Int.eq_ofNat_of_zero_le h0
  have hj : j < l.length := by omega
  exact ⟨l[j], atI_nat (List.getElem?_eq_getElem hj), List.getElem_mem hj⟩
structure HS (h : Hd) (G H : Hp) (i g m k : Int) : Prop where
  i0 : 0 ≤ i
  g0 : 0 ≤ g
  m0 : 0 ≤ m
  k0 : 0 ≤ k
  keep : Keep h G H
  ok : HandOk h H
  at_p : H h.p = some (.lst [.ref h.c, .int i, .int g, .int m, .int k])
theorem HS.put {h : Hd} {G H : Hp} {i g m k i' g' m' k' : Int} (s : HS h G H i g m k) (a : 0 ≤ i') (b : 0 ≤ g') (c : 0 ≤ m') (d : 0 ≤ k') : HS h G (upd H h.p (.lst [.ref h.c, .int i', .int g', .int m', .int k'])) i' g' m' k' := by
  obtain ⟨k1, k2⟩ := keep_hand s.keep s.ok a b c d
  exact ⟨a, b, c, d, k1, k2, upd_same⟩
theorem HS.cells {h : Hd} {G H : Hp} {i g m k : Int} (s : HS h G H i g m k) : H h.c = some (.lst (h.ns.map V.int)) ∧ (∀ n ∈ h.ns, 0 ≤ n) := ⟨s.ok.2.2.1, s.ok.2.1⟩
theorem ats {c : Addr} {i g m k : Int} : atI [V.ref c, .int i, .int g, .int m, .int k] 0 = some (.ref c) ∧ atI [V.ref c, .int i, .int g, .int m, .int k] 1 = some (.int i) ∧ atI [V.ref c, .int i, .int g, .int m, .int k] 2 = some (.int g) ∧ atI [V.ref c, .int i, .int g, .int m, .int k] 3 = some (.int m) ∧ atI [V.ref c, .int i, .int g, .int m, .int k] 4 = some (.int k) :=
  ⟨atI_nat (j := 0) rfl, atI_nat (j := 1) rfl, atI_nat (j := 2) rfl, atI_nat (j := 3) rfl, atI_nat (j := 4) rfl⟩
def tFst (h : Hd) (G : Hp) (n : Int) : TS := fun D σ H => ∃ i g m k, HS h G H i g m k ∧ σ = [some (.ref h.p), some (.int n), none, none, none] ∧ ∀ i' g' m' k' x2 H', HS h G H' i' g' m' k' → D.nx [some (.ref h.p), some (.int n), x2, none, none] H'
def tLst (h : Hd) (G : Hp) (n : Int) : TS := fun D σ H => ∃ i g m k x2, HS h G H i g m k ∧ 0 < n ∧ n ≤ 1000 ∧ σ = [some (.ref h.p), some (.int n), x2, none, none] ∧ ∀ d : Int, 0 ≤ d → d < n → ∀ H', Keep h G H' → D.rt (.int d) H'
theorem f__law_draw {P : Program} {w : World} {K : PySem.W.Frag} {mg : Str → Option Value} {base : Heap} {f : Addr} {fd : FuncData} {h : Hd} (F : Fun K "_law_draw" "_law_draw" s__law_draw f fd) (Fa : Facts mg) : FnOk P w K mg base CX0 1 f fd ["hand", "many"] (spP h g__law_draw) := by
  refine F.ok sc__law_draw (fun vs H Q E q => ?_) (fun cdv A outer s H vs Q E hr q => ?_)
  · obtain ⟨ds, Fs, R, ho, r, np, ⟨n, rfl, _⟩, c⟩ := q
    exact r.length
  · obtain ⟨ds, Fs, R, ho, r, np, ⟨n, rfl, n0, n1, hR⟩, c⟩ := q
    obtain ⟨_, _, x, _, _, rfl, ⟨_, rfl⟩, _, _, y, _, _, rfl, ⟨_, rfl⟩, _, rfl⟩ := r
    refine ⟨_, pss_cons (ps_imp (t' := tFst h H n) (ps_if (pw_and (pt_cmpR op_eq (pe_ix ix_list (pv 0) pe_int (fun _ _ => rfl)) pe_int (nomark _)) (pw_and1 (pt_cmpR op_lt (pe_ix ix_list (pv 0) pe_int (fun _ _ => rfl)) (pe_callB call_len_seq (by rfl) Fa.m_len bt_len (pa_cons (pe_ix ix_list (pv 0) pe_int (fun _ _ => rfl)) pa_nil)) (nomark _)))).pt
      (pss_cons (ps_set (i := 2) sc__law_draw.nd rfl (.inl rfl) (pe_ix ix_list (pe_ix ix_list (pv 0) pe_int (fun _ _ => rfl)) (pe_ix ix_list (pv 0) pe_int (fun _ _ => rfl)) (fun _ _ => rfl)))
      (pss_cons (ps_asg (pe_op op_add (pe_ix ix_list (pv 0) pe_int (fun _ _ => rfl)) pe_int) (pg_sub (pv 0) pe_int set_list))
      (pss_cons (ps_asg (pe_op op_mod (pe_callTy call_int1 (by rfl) Fa.m_int bt_int (pa_cons (pe_op op_add (pe_op op_add (pe_op op_mul (pe_ix ix_list (pv 0) pe_int (fun _ _ => rfl)) pe_int) (pe_op op_mul (pv 2) pe_int)) pe_int) pa_nil)) pe_int) (pg_sub (pv 0) pe_int set_list))
      (pss_one (ps_if (pt_cmpR op_ge (pv 2) (pe_op op_pow pe_int pe_int) (nomark _)) (pss_one (ps_asg (pv 2) (pg_sub (pv 0) pe_int set_list))) pss_nil))))) pss_nil) (fun D σ H1 w => ?_)) (pss_imp (t' := tLst h H n) (pss_cons (ps_if (pt_cmpR op_gt (pe_ix ix_list (pv 0) pe_int (fun _ _ => rfl)) pe_int (nomark _))
      (pss_cons (ps_set (i := 3) sc__law_draw.nd rfl (.inl rfl) (pe_op op_mod (pe_callTy call_int1 (by rfl) Fa.m_int bt_int (pa_cons (pe_ix ix_list (pv 0) pe_int (fun _ _ => rfl)) pa_nil)) (pv 1)))
      (pss_cons (ps_asg (pe_op op_fdiv (pe_ix ix_list (pv 0) pe_int (fun _ _ => rfl)) (pv 1)) (pg_sub (pv 0) pe_int set_list))
      (pss_one (ps_ret (pv 3))))) pss_nil)
    (pss_cons (ps_asg (pe_op op_add (pe_ix ix_list (pv 0) pe_int (fun _ _ => rfl)) pe_int) (pg_sub (pv 0) pe_int set_list))
    (pss_cons (ps_set (i := 4) sc__law_draw.nd rfl (.inl rfl) (pe_op op_mod (pe_callTy call_int1 (by rfl) Fa.m_int bt_int (pa_cons (pe_op op_mul (pe_callTy call_int1 (by rfl) Fa.m_int bt_int (pa_cons (pe_op op_add (pe_ix ix_list (pv 0) pe_int (fun _ _ => rfl)) (pe_op op_mul pe_int (pe_ix ix_list (pv 0) pe_int (fun _ _ => rfl)))) pa_nil)) pe_int) pa_nil)) pe_int))
    (pss_cons (ps_set (i := 4) sc__law_draw.nd rfl (.inl rfl) (pe_op op_mod (pe_callTy call_int1 (by rfl) Fa.m_int bt_int (pa_cons (pe_op op_mul (pv 4) (pe_op op_add (pe_op op_fdiv (pv 4) pe_int) pe_int)) pa_nil)) pe_int))
    (pss_cons (ps_set (i := 4) sc__law_draw.nd rfl (.inl rfl) (pe_op op_mod (pe_callTy call_int1 (by rfl) Fa.m_int bt_int (pa_cons (pe_op op_mul (pv 4) (pe_op op_add (pe_op op_fdiv (pv 4) pe_int) pe_int)) pa_nil)) pe_int))
    (pss_one (ps_ret (pe_op op_mod (pe_callTy call_int1 (by rfl) Fa.m_int bt_int (pa_cons (pe_op op_fdiv (pv 4) pe_int) pa_nil)) (pv 1))))))))) (fun D σ H1 w => ?_)), ?_⟩
    · obtain ⟨i, g, m, k, hs, rfl, nx⟩ := w
      obtain ⟨hc, hn⟩ := hs.cells
      have skip : D.nx [some (.ref h.p), some (.int n), none, none, none] H1 := nx i g m k none H1 hs
      refine hx rfl hs.at_p ats.2.2.1 ⟨rfl, _, rfl, ?_⟩
      by_cases e : V.int g = V.int 0
      · rw [decide_eq_true e]
        dsimp only
        rw [if_pos rfl]
        refine hx rfl hs.at_p ats.2.1 (hx rfl hs.at_p ats.1 ⟨h.c, _, rfl, .inl (.inl (.inl hc)), _, _, rfl, rfl, _, rfl, ?_⟩)
        dsimp only
        by_cases e2 : i < (((h.ns.map V.int).length : Nat) : Int)
        · rw [decide_eq_true e2, if_pos rfl]
          -- cell = hand[0][hand[1]]
          obtain ⟨x, ex, hx'⟩ := at_inI hs.i0 e2
          obtain ⟨c0, hc0, rfl⟩ := List.mem_map.mp hx'
          have c00 := hn c0 hc0
          refine hx rfl hs.at_p ats.1 (hx rfl hs.at_p ats.2.1 ⟨h.c, _, i, _, rfl, rfl, .inl (.inl hc), ex, ?_⟩)
          -- hand[1] = hand[1] + 1
          refine hx rfl hs.at_p ats.2.1 ⟨i, 1, rfl, rfl, ?_⟩
          have s1 := hs.put (i' := i + 1) (g' := g) (m' := m) (k' := k) (by have := hs.i0; omega) hs.g0 hs.m0 hs.k0
          refine hst rfl hs.at_p (k := 1) (show ixN 5 1 = some 1 by decide) ?_
          -- hand[3] = ..
          refine hx rfl s1.at_p ats.2.2.2.1 ⟨m, 69621, rfl, rfl, .inr (by decide), ?_⟩
          refine ⟨.int c0, rfl, ⟨c0, 40692, rfl, rfl, .inr (by decide), ?_⟩⟩
          refine ⟨m * 69621, c0 * 40692, rfl, rfl, ⟨_, 41, rfl, rfl, .inl ⟨_, rfl, ⟨_, 2147483629, rfl, rfl, (show (0 : Int) < 2147483629 by decide), ?_⟩⟩⟩⟩
          have s2 := s1.put (i' := i + 1) (g' := g) (m' := (m * 69621 + c0 * 40692 + 41) % 2147483629) (k' := k) (by have := hs.i0; omega) hs.g0 (by omega) hs.k0
          refine hst rfl s1.at_p (k := 3) (show ixN 5 3 = some 3 by decide) ?_
          -- if cell >= 10 ** 18
          refine ⟨.int c0, rfl, ⟨10, 18, rfl, rfl, ⟨by decide, by decide, by decide⟩, ⟨_, _, rfl, rfl, _, rfl, ?_⟩⟩⟩
          dsimp only
          by_cases e3 : (10 : Int) ^ (18 : Int).toNat ≤ c0
          · rw [decide_eq_true e3, if_pos rfl]
            refine ⟨.int c0, rfl, ?_⟩
            refine hst rfl s2.at_p (k := 2) (show ixN 5 2 = some 2 by decide) ?_
            exact nx _ _ _ _ _ _ (s2.put (i' := i + 1) (g' := c0) (m' := (m * 69621 + c0 * 40692 + 41) % 2147483629) (k' := k) (by have := hs.i0; omega) c00 (by omega) hs.k0)
          · rw [decide_eq_false e3, if_neg Bool.false_ne_true]
            exact nx _ _ _ _ _ _ s2
        · rw [decide_eq_false e2, if_neg Bool.false_ne_true]
          exact skip
      · rw [decide_eq_false e]
        exact skip
    · obtain ⟨i, g, m, k, x2, hs, n0, n1, rfl, rt⟩ := w
      refine hx rfl hs.at_p ats.2.2.1 ⟨g, 0, rfl, rfl, _, rfl, ?_⟩
      dsimp only
      by_cases e : (0 : Int) < g
      · rw [decide_eq_true e, if_pos rfl]
        refine hx rfl hs.at_p ats.2.2.1 (.inl ⟨g, rfl, .int n, rfl, g, n, rfl, rfl, n0, ?_⟩)
        refine hx rfl hs.at_p ats.2.2.1 ⟨.int n, rfl, g, n, rfl, rfl, ⟨n0, by omega⟩, ?_⟩
        refine hst rfl hs.at_p (k := 2) (show ixN 5 2 = some 2 by decide) ?_
        exact ⟨.int (g % n), rfl, rt _ (Int.emod_nonneg _ (by omega)) (Int.emod_lt_of_pos _ n0) _ (hs.put (i' := i) (g' := g / n) (m' := m) (k' := k) hs.i0 (Int.ediv_nonneg hs.g0 (by omega)) hs.m0 hs.k0).keep⟩
      · rw [decide_eq_false e, if_neg Bool.false_ne_true]
        refine hx rfl hs.at_p ats.2.2.2.2 ⟨k, 1, rfl, rfl, ?_⟩
        refine hst rfl hs.at_p (k := 4) (show ixN 5 4 = some 4 by decide) ?_
        have s1 := hs.put (i' := i) (g' := g) (m' := m) (k' := k + 1) hs.i0 hs.g0 hs.m0 (by have := hs.k0; omega)
        refine hx rfl s1.at_p ats.2.2.2.1 (hx rfl s1.at_p ats.2.2.2.2 ⟨7919, k + 1, rfl, rfl, .inl (by decide), m, 7919 * (k + 1), rfl, rfl, .inl ⟨_, rfl, _, 48271, rfl, rfl, .inr (by decide), .inl ⟨_, rfl, _, 2147483647, rfl, rfl, (show (0 : Int) < 2147483647 by decide), ?_⟩⟩⟩)
        have a1 := Int.emod_nonneg ((m + 7919 * (k + 1)) * 48271) (show (2147483647 : Int) ≠ 0 by decide)
        have b1 := Int.emod_lt_of_pos ((m + 7919 * (k + 1)) * 48271) (show (0 : Int) < 2147483647 by decide)
        dsimp only
        generalize ((m + 7919 * (k + 1)) * 48271) % 2147483647 = N1 at a1 b1
        refine ⟨.int N1, rfl, .int N1, rfl, N1, 1009, rfl, rfl, ⟨by decide, by decide⟩, _, 69621, rfl, rfl, N1, _, rfl, rfl, .inl ⟨by omega, by omega⟩, .inl ⟨_, rfl, _, 2147483647, rfl, rfl, (show (0 : Int) < 2147483647 by decide), ?_⟩⟩
        have a2 := Int.emod_nonneg (N1 * (N1 / 1009 + 69621)) (show (2147483647 : Int) ≠ 0 by decide)
        have b2 := Int.emod_lt_of_pos (N1 * (N1 / 1009 + 69621)) (show (0 : Int) < 2147483647 by decide)
        dsimp only
        generalize (N1 * (N1 / 1009 + 69621)) % 2147483647 = N2 at a2 b2
        refine ⟨.int N2, rfl, .int N2, rfl, N2, 2003, rfl, rfl, ⟨by decide, by decide⟩, _, 40014, rfl, rfl, N2, _, rfl, rfl, .inl ⟨by omega, by omega⟩, .inl ⟨_, rfl, _, 2147483563, rfl, rfl, (show (0 : Int) < 2147483563 by decide), ?_⟩⟩
        have a3 := Int.emod_nonneg (N2 * (N2 / 2003 + 40014)) (show (2147483563 : Int) ≠ 0 by decide)
        dsimp only
        generalize (N2 * (N2 / 2003 + 40014)) % 2147483563 = N3 at a3
        refine ⟨.int N3, rfl, N3, 16, rfl, rfl, ⟨by decide, by decide⟩, .inl ⟨_, rfl, .int n, rfl, _, n, rfl, rfl, n0, ?_⟩⟩
        exact rt _ (Int.emod_nonneg _ (by omega)) (Int.emod_lt_of_pos _ n0) _ s1.keep
    · obtain ⟨a, b, c', i, g, m, k, i0, g0, m0, k0, hp⟩ := ho
      refine ⟨i, g, m, k, ⟨i0, g0, m0, k0, Keep.refl H, ⟨a, b, c', i, g, m, k, i0, g0, m0, k0, hp⟩, hp⟩, rfl, fun i' g' m' k' x2 H' hs => ?_⟩
      exact ⟨i', g', m', k', x2, hs, n0, n1, rfl, fun d d0 d1 H2 kk => c _ (hR d d0 d1) _ H2 [] kk ⟨rfl, rfl⟩ (fun _ z => nomatch z) List.nodup_nil⟩
end K20

set_option maxHeartbeats 4000000
namespace K20
open PySem PySem.Spec PyProof.Rows L2 PL
abbrev s__law_hand : Stmt := topS 25
theorem sc__law_hand : FnScope ["script", "cell"] ["script"] (defScope s__law_hand) := ⟨rfl, rfl, rfl, by decide +kernel, rfl, by decide +kernel, by decide +kernel⟩
theorem bt_abs : bootBuiltins "abs" = some (.builtin "abs") := by decide +kernel
def absI (n : Int) : Int := if n < 0 then -n else n
def spHand (K : PySem.W.Frag) : Sp := fun vs H Q _ => ∃ (a : Addr) (ns : List Int), vs = [.ref a] ∧ SqL K H a (ns.map V.int) ∧ ns.length ≤ 63 ∧ ∀ (p c : Addr) (H' : Hp) (m : Int), 0 ≤ m → p ≠ c → H' p = some (.lst [.ref c, .int 0, .int 0, .int m, .int 0]) → H' c = some (.lst ((ns.map absI).map V.int)) → Q (.ref p) H'
theorem cut63 {ns : List Int} (h : ns.length ≤ 63) : cutV (ns.map V.int) none (some 63) = ns.map V.int := by
  unfold cutV
  rw [HT.sIx_none, show (63 : Int) = ((63 : Nat) : Int) from rfl, HT.sIx_nat, List.length_map, Nat.min_eq_right h, List.drop_zero, Nat.sub_zero]
  exact List.take_of_length_le (by rw [List.length_map]; exact Nat.le_refl _)
theorem seq_new {K : PySem.W.Frag} {H : Hp} {a p : Addr} {xs : List V} {o : HO} (s : SqL K H a xs) (n : H p = none) : SqL K (upd H p o) a xs := by
  rcases s with (s | ⟨u, s⟩) | s
  · exact .inl (.inl (by rw [upd_ne (ne_of_none s n)]; exact s))
  · exact .inl (.inr ⟨u, by rw [upd_ne (ne_of_none s n)]; exact s⟩)
  · exact .inr s
theorem seq_upd {K : PySem.W.Frag} {H H' : Hp} {a p : Addr} {xs : List V} {o : HO} (s : SqL K H a xs) (n : H p = none) (s' : SqL K H' a xs) : SqL K (upd H' p o) a xs := by
  have go : a ≠ p → SqL K (upd H' p o) a xs := fun ne => by
    rcases s' with (s | ⟨u, s⟩) | s
    · exact .inl (.inl (by rw [upd_ne ne]; exact s))
    · exact .inl (.inr ⟨u, by rw [upd_ne ne]; exact s⟩)
    · exact .inr s
  rcases s with (s | ⟨u, s⟩) | s
  · exact go (ne_of_none s n)
  · exact go (ne_of_none s n)
  · exact .inr s
theorem f__law_hand {P : Program} {w : World} {K : PySem.W.Frag} {mg : Str → Option Value} {base : Heap} {f : Addr} {fd : FuncData} (F : Fun K "_law_hand" "_law_hand" s__law_hand f fd) (Fa : Facts mg) (ma : mg "abs" = none) : FnOk P w K mg base CX0 1 f fd ["script"] (spHand K) := by
  refine F.ok sc__law_hand (fun vs H Q E q => ?_) (fun cdv A outer s H vs Q E hr q => ?_)
  · obtain ⟨a, ns, rfl, _⟩ := q
    rfl
  · obtain ⟨a, ns, rfl, hs, hl, fin⟩ := q
    refine ⟨_, pss_one (ps_ret (pe_lst (pa_cons (pe_lc rfl sc__law_hand.nd (pi_list (pe_slice sl_list (pv 0) po_none (po_some pe_int))) (blkOk_by (own := [("cell", 1)]) (by show blkC ["script", "cell"] (defScope s__law_hand) _ _ = true; decide +kernel))
        (fun _ _ _ _ _ => pg_name (i := 1) sc__law_hand.nd rfl (by first | exact .inl rfl | exact .inr rfl)) (fun _ _ _ _ _ => pts_nil) (fun _ _ _ _ _ => pe_callB call_abs (by rfl) ma bt_abs (pa_cons (pe_callTy call_int1 (by rfl) Fa.m_int bt_int (pa_cons (pv 1) pa_nil)) pa_nil)))
      (pa_cons pe_int (pa_cons pe_int (pa_cons (pe_op op_add pe_int (pe_op op_mul pe_int (pe_callB call_len_seq (by rfl) Fa.m_len bt_len (pa_cons (pe_slice sl_list (pv 0) po_none (po_some pe_int)) pa_nil)))) (pa_cons pe_int pa_nil))))))), ?_⟩
    have S0 : L2.start ["script", "cell"] [V.ref a] = [some (.ref a), none] := rfl
    rw [S0]
    refine ⟨.ref a, rfl, 63, rfl, a, _, rfl, hs, fun q nq => ?_⟩
    rw [cut63 hl]
    refine ⟨q, rfl, ⟨_, .inl (.inl upd_same)⟩, fun D nD => ?_⟩
    have hqD : q ≠ D := fun z => by rw [← z, upd_same] at nD; cases nD
    have hs1 : SqL K (upd H q (.lst (ns.map V.int))) a (ns.map V.int) := seq_new hs nq
    refine lc_list (K := K) (a := q) (xs := ns.map V.int) (fun i H' => H' q = some (.lst (ns.map V.int)) ∧ H' D = some (.lst (((ns.take i).map absI).map V.int)) ∧ SqL K H' a (ns.map V.int)) ⟨by rw [upd_ne hqD]; exact upd_same, by rw [upd_same]; rfl, seq_new hs1 nD⟩ (fun i H' _ p => .inl (.inl p.1)) (fun i x H' ex p => ?_) (fun H' p => ?_)
    · obtain ⟨p1, p2, p3⟩ := p
      rw [List.getElem?_map] at ex
      obtain ⟨n, en, rfl⟩ := Option.map_eq_some_iff.mp ex
      have hi : i < ns.length := (List.getElem?_eq_some_iff.mp en).1
      refine ⟨rfl, ?_⟩
      refine ⟨.int n, rfl, .inl ⟨n, rfl, n, rfl, _, p2, ?_, ?_, ?_, ?_⟩⟩
      · rw [List.length_map, List.length_map, List.length_take]; exact small1000 (by omega)
      · rw [upd_ne hqD]; exact p1
      · rw [upd_same, List.take_succ, en, List.map_append, List.map_append]
        rfl
      · exact seq_upd hs1 nD p3
    · obtain ⟨p1, p2, p3⟩ := p
      rw [List.length_map, List.take_length] at p2
      refine ⟨.ref a, rfl, 63, rfl, a, _, rfl, p3, fun r nr => ?_⟩
      rw [cut63 hl]
      refine ⟨r, _, rfl, .inl (.inl (.inl upd_same)), 7, _, rfl, rfl, .inl (by decide), 18771, _, rfl, rfl, ?_⟩
      refine ⟨(show 5 ≤ sizeLine by decide), fun p np => ?_⟩
      have hDr : D ≠ r := ne_of_none p2 nr
      have hDp : D ≠ p := ne_of_none (by rw [upd_ne hDr]; exact p2) np
      exact fin p D _ _ (by rw [List.length_map]; omega) (Ne.symm hDp) upd_same (by rw [upd_ne hDp, upd_ne hDr]; exact p2)
end K20

set_option maxHeartbeats 4000000
namespace K20
open PySem PySem.Spec PyProof.Rows L2 PL
abbrev s_law : Stmt := topS 35
theorem sc_law : FnScope ["script", "hand", "turn"] ["script"] (defScope s_law) := ⟨rfl, rfl, rfl, by decide +kernel, rfl, by decide +kernel, by decide +kernel⟩
def w_law : WS :=
    (wSeqS (wIfS (wOrT (wTB (wB kNe (wL g_bar (wCons (wTup (wCons (wC (.str "ab")) (wCons (wC (.str "cd")) wNil))) wNil)) (wTup (wCons (wC (.str "letters")) (wCons (wC (.str "abcd")) wNil))))) (wTB (wB kNe (wL g_chain (wCons (wTup (wCons (wC (.str "ab")) (wCons (wC (.str "ba")) wNil))) wNil)) (wTup (wCons (wC (.int 0)) (wCons (wC (.int 1)) wNil)))))) (wRet (wC (.bl false))) wNext)
    (wSeqS (wIfS (wTB (wB kNe (wL g_bar (wCons (wTup (wCons (wC (.str "aa")) (wCons (wC (.str "bb")) wNil))) wNil)) (wTup (wCons (wC (.str "apart")) (wCons (wTup (wCons (wC (.int 0)) wNil)) wNil))))) (wRet (wC (.bl false))) wNext)
    (wRet (wL kAll (wCons (wLc [2] (wRng1 (wCons (wC (.int 4)) wNil)) (wN 2) wYes (wL g__law_is_right (wCons (wVar 1) wNil))) wNil)))))
theorem pss_ex {X : Cx} {sts : List Stmt} {α : Type} {t : α → TS} (p : ∀ a, PSs X sts (t a)) : PSs X sts (fun D σ H => ∃ a, t a D σ H) := ⟨fun pins s σ H D I ⟨a, w⟩ => (p a).run pins s σ H D I w⟩
def spLaw (K : PySem.W.Frag) : Sp := fun vs H Q _ => ∃ (a : Addr) (ns : List Int), vs = [.ref a] ∧ SqL K H a (ns.map V.int) ∧ ns.length ≤ 63 ∧ ∀ H', Q (.bl true) H'
theorem f_law {P : Program} {w : World} {K : PySem.W.Frag} {mg : Str → Option Value} {base : Heap} {f fH : Addr} {fd fdH : FuncData} (F : Fun K "law" "law" s_law f fd) (Fa : Facts mg) (FH : FnOk P w K mg base CX0 1 fH fdH ["script"] (spHand K)) (kH : PySem.W.keepIn K (.ref fH) = true) (bH : Binds K fdH ["script"] []) (mH : mg "_law_hand" = some (.ref fH))
    (C_chain : Cal P w K mg base 5 "chain" ["book"] g_chain) (C_bar : Cal P w K mg base 5 "bar" ["book"] g_bar) (C__law_is_right : Cal P w K mg base 6 "_law_is_right" ["hand"] g__law_is_right) (law : w_law { nx := fun _ => False, rt := fun d => d = B true } [.no, .bor .hand, .no]) : FnOk P w K mg base CX0 7 f fd ["script"] (spLaw K) := by
  refine F.ok sc_law (fun vs H Q E q => ?_) (fun cdv A outer s H vs Q E hr q => ?_)
  · obtain ⟨a, ns, rfl, _⟩ := q
    rfl
  · obtain ⟨a, ns, rfl, hs, hl, fin⟩ := q
    refine ⟨_, pss_cons (ps_set (i := 1) sc_law.nd rfl (by first | exact .inl rfl | exact .inr rfl) (pe_call FH (hr.mono (by decide)) (by rfl) mH kH bH .nil pass0 (pa_cons (pv 0) pa_nil))) (pss_ex (t := fun h => tS h w_law) fun h => (qcons (qif (ptor (ptc (op_neD hr.units) s_ne (pf_p (pcall C_bar (hr.mono (by decide)) (by rfl) (pa_cons_p (pf_p (ptup (pa_cons_f (pconst pe_str) (pa_cons_f (pconst pe_str) panil)))) (paf_p panil)))) (pf_p (ptup (pa_cons_f (pconst pe_str) (pa_cons_f (pconst pe_str) panil)))) (nomark _)) (ptor1 (ptc (op_neD hr.units) s_ne (pf_p (pcall C_chain (hr.mono (by decide)) (by rfl) (pa_cons_p (pf_p (ptup (pa_cons_f (pconst pe_str) (pa_cons_f (pconst pe_str) panil)))) (paf_p panil)))) (pf_p (ptup (pa_cons_f (pconst pe_int) (pa_cons_f (pconst pe_int) panil)))) (nomark _)))).pt (qone (qret (pconst pe_bl))) qnil)
    (qcons (qif (ptc (op_neD hr.units) s_ne (pf_p (pcall C_bar (hr.mono (by decide)) (by rfl) (pa_cons_p (pf_p (ptup (pa_cons_f (pconst pe_str) (pa_cons_f (pconst pe_str) panil)))) (paf_p panil)))) (pf_p (ptup (pa_cons_f (pconst pe_str) (pa_cons_f (ptup (pa_cons_f (pconst pe_int) panil)) panil)))) (nomark _)) (qone (qret (pconst pe_bl))) qnil)
    (qone (qret (pcb (cr_all rfl) s_all (by rfl) Fa.m_all bt_all (pa_cons_p (pf_p (plc rfl sc_law.nd (it_rng1 (by rfl) Fa.m_range (pa_cons_p (pf_p (pconst pe_int)) (paf_p panil))) (blkOk_by (own := [("turn", 2)]) (by show blkC ["script", "hand", "turn"] (defScope s_law) _ _ = true; decide +kernel)) (fun _ _ _ _ _ => (tg_name (i := 2) sc_law.nd rfl (by first | exact .inl rfl | exact .inr rfl))) (fun _ _ _ _ _ => ptsnil) (fun _ _ _ _ _ => (pcall C__law_is_right (hr.mono (by decide)) (by rfl) (pa_cons_p (pvar (pv 1)) (paf_p panil)))))) (paf_p panil)))))))), ?_⟩
    refine ⟨.ref a, rfl, a, ns, rfl, hs, hl, fun p c H' m m0 pc e1 e2 => ?_⟩
    have ho : HandOk ⟨p, c, ns.map absI⟩ H' := ⟨pc, fun n hn => by
      obtain ⟨z, _, rfl⟩ := List.mem_map.mp hn
      unfold absI
      split <;> omega, e2, 0, 0, m, 0, Int.le_refl _, Int.le_refl _, m0, Int.le_refl _, e1⟩
    refine ⟨⟨p, c, ns.map absI⟩, ⟨H', fun _ => none⟩, [.no, .bor .hand, .no], fun _ => [], _, ?_, law, fun _ z => z.elim, fun _ z => z.elim, fun _ z => z.elim, fun d wd v H2 F k q fr nd => ?_⟩
    · refine ⟨Keep.refl H', fun b x e => (nomatch e), ho, fun z => ?_, fun z => ?_, rfl, rfl, fun i s e => ?_, fun _ _ => rfl, fun _ _ _ z => (nomatch z), fun _ => List.nodup_nil, fun _ _ z => (nomatch z)⟩
      · have z : H' p = none := z
        rw [e1] at z; cases z
      · have z : H' c = none := z
        rw [e2] at z; cases z
      · match i, e with
        | 0, e => cases e; exact ⟨_, rfl, rfl⟩
        | 1, e => cases e; exact ⟨_, rfl, rfl, .ref p, [], rfl, ⟨rfl, rfl⟩, fun _ z => nomatch z⟩
        | 2, e => cases e; exact ⟨_, rfl, rfl⟩
    · have wd : d = B true := wd
      subst wd
      rw [q.2]
      exact fin H2
end K20

namespace K20
open PySem PySem.Spec PyProof.Rows L2 PL
theorem kNe_self {d : D} (h : SeqAt.shaped d.py = true) {R : D → Prop} (g : R (B false)) : kNe d d R := ⟨h, h, by rw [SeqAt.eqv_refl _ (SeqAt.canLay_of_shaped h)]; exact g⟩
theorem wd_two (s : Str) (h : s.cps.toList = [97, 98] ∨ s.cps.toList = [98, 97] ∨ s.cps.toList = [99, 100] ∨ s.cps.toList = [97, 97] ∨ s.cps.toList = [98, 98]) : Wd s := by
  have l : s.length = 2 := by
    show s.cps.size = 2
    rw [← Array.length_toList]
    rcases h with h | h | h | h | h <;> rw [h] <;> rfl
  refine ⟨by omega, by omega, fun c hc => ?_⟩
  rcases h with h | h | h | h | h <;> rw [h] at hc <;> simp at hc <;> omega
theorem book_two {a b : Str} (ha : Wd a) (hb : Wd b) (h : strLt a b = true) : Book [a, b] := ⟨(show 2 ≤ 60 by decide), fun w hw => by
  rcases List.mem_cons.mp hw with rfl | hw
  · exact ha
  · rw [List.mem_singleton] at hw; subst hw; exact hb, by simp [h]⟩
theorem l_ab : (Str.ofString "ab").cps.toList = [97, 98] := by decide +kernel
theorem l_ba : (Str.ofString "ba").cps.toList = [98, 97] := by decide +kernel
theorem l_cd : (Str.ofString "cd").cps.toList = [99, 100] := by decide +kernel
theorem l_aa : (Str.ofString "aa").cps.toList = [97, 97] := by decide +kernel
theorem l_bb : (Str.ofString "bb").cps.toList = [98, 98] := by decide +kernel
theorem b1 : Book [Str.ofString "ab", Str.ofString "cd"] := book_two (wd_two _ (.inl l_ab)) (wd_two _ (.inr (.inr (.inl l_cd)))) (by decide +kernel)
theorem b2 : Book [Str.ofString "ab", Str.ofString "ba"] := book_two (wd_two _ (.inl l_ab)) (wd_two _ (.inr (.inl l_ba))) (by decide +kernel)
theorem b3 : Book [Str.ofString "aa", Str.ofString "bb"] := book_two (wd_two _ (.inr (.inr (.inr (.inl l_aa))))) (wd_two _ (.inr (.inr (.inr (.inr l_bb))))) (by decide +kernel)
theorem e1 : [Str.ofString "ab", Str.ofString "cd"].map edW = [(97, 98), (99, 100)] := by decide +kernel
theorem e2 : [Str.ofString "ab", Str.ofString "ba"].map edW = [(97, 98), (98, 97)] := by decide +kernel
theorem e3 : [Str.ofString "aa", Str.ofString "bb"].map edW = [(97, 97), (98, 98)] := by decide +kernel
theorem noEven : ¬ Even [(97, 98), (99, 100)] := by
  rintro ⟨x, y, h⟩
  have h1 := h 97
  have h2 := h 99
  have v1 : bal [(97, 98), (99, 100)] 97 = 1 := by decide
  have v2 : bal [(97, 98), (99, 100)] 99 = 1 := by decide
  rw [v1] at h1
  rw [v2] at h2
  have n1 := dl_nonneg y 97
  have n2 := dl_nonneg y 99
  by_cases a : x = 97
  · rw [a, dl_ne (show (97 : Nat) ≠ 99 by decide)] at h2; omega
  · rw [dl_ne a] at h1; omega
theorem way2 : Way [(97, 98), (98, 97)] := ⟨97, ⟨97, fun u => by show dl 97 u - dl 98 u + (dl 98 u - dl 97 u + 0) = dl 97 u - dl 97 u; omega⟩, fun e he => by
  rcases List.mem_cons.mp he with rfl | he
  · exact .base
  · rw [List.mem_singleton] at he; subst he; exact .fwd (e := (97, 98)) (by simp) .base⟩
theorem even3 : Even [(97, 97), (98, 98)] := ⟨0, 0, fun u => by show dl 97 u - dl 97 u + (dl 98 u - dl 98 u + 0) = dl 0 u - dl 0 u; omega⟩
theorem reach3 {u : Nat} (r : Reach [(97, 97), (98, 98)] 97 u) : u = 97 := by
  induction r with
  | base => rfl
  | fwd m _ ih => simp at m; rcases m with rfl | rfl <;> simp_all
  | bwd m _ ih => simp at m; rcases m with rfl | rfl <;> simp_all
theorem noWay3 : ¬ Way [(97, 97), (98, 98)] := fun w => by
  have := (way_iff.mp w).2 (98, 98) (by simp)
  have := reach3 this
  cases this
theorem hangs3 : hangs [Str.ofString "aa", Str.ofString "bb"] 97 = [0] := by
  classical
  unfold hangs
  rw [e3]
  have r : List.range [Str.ofString "aa", Str.ofString "bb"].length = [0, 1] := by decide
  rw [r]
  have h0 : decide (Reach [(97, 97), (98, 98)] 97 (hdc ([Str.ofString "aa", Str.ofString "bb"].getD 0 ⟨#[]⟩))) = true := decide_eq_true (by
    have : hdc ([Str.ofString "aa", Str.ofString "bb"].getD 0 ⟨#[]⟩) = 97 := by decide +kernel
    rw [this]; exact .base)
  have h1 : decide (Reach [(97, 97), (98, 98)] 97 (hdc ([Str.ofString "aa", Str.ofString "bb"].getD 1 ⟨#[]⟩))) = false := decide_eq_false (fun r => by
    have : hdc ([Str.ofString "aa", Str.ofString "bb"].getD 1 ⟨#[]⟩) = 98 := by decide +kernel
    rw [this] at r
    have := reach3 r
    cases this)
  rw [List.filter_cons, if_pos h0, List.filter_cons, if_neg (by rw [h1]; exact Bool.false_ne_true), List.filter_nil]
theorem l_law : w_law { nx := fun _ => False, rt := fun d => d = B true } [.no, .bor .hand, .no] := by
  show wIfS _ _ wNext { nx := wSeqS (wIfS _ _ wNext) (wRet (wL kAll (wCons (wLc [2] (wRng1 (wCons (wC (.int 4)) wNil)) (wN 2) wYes (wL g__law_is_right (wCons (wVar 1) wNil))) wNil))) { nx := fun _ => False, rt := fun d => d = B true }, rt := fun d => d = B true } _
  simp only [wIfS, wOrT, wTB, wB, wL, wCons, wNil, wTup, wC, asB, wNext, List.length_cons, List.length_nil]
  refine ⟨by decide, ?_⟩
  refine ⟨false, Str.ofString "ab", [Str.ofString "cd"], rfl, b1, fun w => absurd (by rw [e1] at w; obtain ⟨x, h, _⟩ := w; exact ⟨x, h⟩) noEven, fun _ => ?_, fun h => absurd (by rw [e1] at h; exact h) noEven⟩
  have eo : oddS ([Str.ofString "ab", Str.ofString "cd"].map edW) = Str.ofString "abcd" := by rw [e1]; decide +kernel
  rw [eo]
  refine ⟨by decide, ?_⟩
  refine kNe_self (by decide +kernel) ?_
  simp only [Bool.false_eq_true, if_false]
  refine ⟨by decide, ?_⟩
  refine ⟨false, [Str.ofString "ab", Str.ofString "ba"], rfl, b2, fun _ ns hc hl => ?_, fun n => absurd (by rw [e2]; exact way2) n⟩
  have hns : ns = [0, 1] := by
    have hlen := isChain_len hc
    rw [List.length_map] at hlen
    obtain ⟨a, b, rfl⟩ := two_of (L := ns) hlen
    unfold isChain at hc
    rw [Bool.and_eq_true] at hc
    have m := isOrd_mem hc.1
    have ma := m (a : Int) (by simp)
    have mb := m (b : Int) (by simp)
    have pm : ([(a : Int), (b : Int)]).Perm [0, 1] := by
      have e := of_decide_eq_true hc.1
      have := (sort_perm [(a : Int), (b : Int)]).symm
      rw [show ([a, b].map fun (i : Nat) => (i : Int)) = [(a : Int), (b : Int)] from rfl] at e
      rw [e] at this
      exact this
    have hne : a ≠ b := fun z => by
      subst z
      have := pm.nodup_iff.mpr (by simp)
      simp at this
    have ha : a = 0 := Classical.byContradiction fun n => by
      have ha1 : a = 1 := by
        have := ma.2
        simp at this
        omega
      refine hl a rfl 0 (by omega) ?_
      have er : (List.range [Str.ofString "ab", Str.ofString "ba"].length).erase 0 = [1] := by decide
      unfold Next
      rw [er]
      have ee : ([1] : List Nat).map (edI [Str.ofString "ab", Str.ofString "ba"]) = [(98, 97)] := by decide +kernel
      have et : (edI [Str.ofString "ab", Str.ofString "ba"] 0).2 = 98 := by decide +kernel
      unfold WayF
      rw [ee, et]
      exact ⟨⟨97, fun u => by show dl 98 u - dl 97 u + 0 = dl 98 u - dl 97 u; omega⟩, fun e he => by rw [List.mem_singleton] at he; subst he; exact .base⟩
    have hb1 : b = 1 := by
      have := mb.2
      simp at this
      omega
    rw [ha, hb1]
  subst hns
  refine ⟨by decide, ?_⟩
  refine kNe_self (d := .tup false [N 0, N 1]) (by decide +kernel) ?_
  simp only [Bool.false_eq_true, if_false]
  show wIfS _ _ wNext { nx := wRet (wL kAll (wCons (wLc [2] (wRng1 (wCons (wC (.int 4)) wNil)) (wN 2) wYes (wL g__law_is_right (wCons (wVar 1) wNil))) wNil)) { nx := fun _ => False, rt := fun d => d = B true }, rt := fun d => d = B true } _
  simp only [wIfS, wTB, wB, wL, wCons, wNil, wTup, wC, asB, wNext, List.length_cons, List.length_nil]
  refine ⟨by decide, ?_⟩
  refine ⟨false, Str.ofString "aa", [Str.ofString "bb"], rfl, b3, fun w => absurd (by rw [e3] at w; exact w) noWay3, fun n => absurd (by rw [e3]; exact even3) n, fun _ _ => ?_⟩
  have hh : hdc (Str.ofString "aa") = 97 := by decide +kernel
  rw [hh, hangs3]
  refine ⟨by decide, by decide, ?_⟩
  refine kNe_self (d := .tup false [T (Str.ofString "apart"), .tup false [N 0]]) (by decide +kernel) ?_
  simp only [Bool.false_eq_true, if_false, wSeqS, wNext, wSet, wDrop, wRet, wRetV, wRetN, wIfS, wPar, wPar3, wAsg, wUnp2, wVar, wHv, wC, wB, wU, wNil, wCons, wL, wImm, wTup, wLst, wIf, asB, wTB, wAndV, wOrV, wAndT, wOrT, wNotT, wChain, wNoPart, wPart, wSl, wGet, wYes, wN, List.getElem?_cons_zero, List.getElem?_cons_succ, List.set_cons_zero, List.set_cons_succ, List.length_cons, List.length_nil, if_true, if_false, Bool.false_eq_true, ↓reduceIte, wLc, wLcK, wDc, wDcK, wZip, wSeq, wEnum, wRng1, wRng2, borAll, wipeR, Sl.toBor, List.map_cons, List.map_nil, seqOf]
  refine ⟨by decide, by decide, ?_⟩
  rw [show ((4 : Int).toNat) = 4 from rfl, rng_items]
  refine lcW_mapI N (fun _ => B true) (fun x hx K hK => ⟨(by decide : (2 : Nat) < 3), rfl, hK⟩) (by decide) ?_
  exact all_mapB (fun _ => true) _ rfl
end K20

set_option maxHeartbeats 4000000
namespace K20
open PySem PySem.Spec PyProof.Rows L2 PL
theorem len_is_integer : ∀ ds R, g_is_integer ds R → ds.length = 1 := by
  intro ds R q
  unfold g_is_integer at q
  first
  | (rcases q with ⟨_, _, _, _, rfl, _⟩ | ⟨_, _, _, rfl, _⟩ <;> rfl; done)
  | (rcases q with ⟨_, _, _, rfl, _⟩ | ⟨_, _, rfl, _⟩ <;> rfl; done)
  | (obtain ⟨rfl, _⟩ := q; rfl)
  | (obtain ⟨_, rfl, _⟩ := q; rfl)
  | (obtain ⟨_, _, rfl, _⟩ := q; rfl)
  | (obtain ⟨_, _, _, rfl, _⟩ := q; rfl)
  | (obtain ⟨_, _, _, _, rfl, _⟩ := q; rfl)
  | (rcases q with ⟨_, _, _, _, rfl, _⟩ | ⟨_, _, _, rfl, _⟩ <;> rfl)
  | (rcases q with ⟨_, _, _, rfl, _⟩ | ⟨_, _, rfl, _⟩ <;> rfl)
theorem len_is_within : ∀ ds R, g_is_within ds R → ds.length = 3 := by
  intro ds R q
  unfold g_is_within at q
  first
  | (rcases q with ⟨_, _, _, _, rfl, _⟩ | ⟨_, _, _, rfl, _⟩ <;> rfl; done)
  | (rcases q with ⟨_, _, _, rfl, _⟩ | ⟨_, _, rfl, _⟩ <;> rfl; done)
  | (obtain ⟨rfl, _⟩ := q; rfl)
  | (obtain ⟨_, rfl, _⟩ := q; rfl)
  | (obtain ⟨_, _, rfl, _⟩ := q; rfl)
  | (obtain ⟨_, _, _, rfl, _⟩ := q; rfl)
  | (obtain ⟨_, _, _, _, rfl, _⟩ := q; rfl)
  | (rcases q with ⟨_, _, _, _, rfl, _⟩ | ⟨_, _, _, rfl, _⟩ <;> rfl)
  | (rcases q with ⟨_, _, _, rfl, _⟩ | ⟨_, _, rfl, _⟩ <;> rfl)
theorem len_is_letters : ∀ ds R, g_is_letters ds R → ds.length = 3 := by
  intro ds R q
  unfold g_is_letters at q
  first
  | (rcases q with ⟨_, _, _, _, rfl, _⟩ | ⟨_, _, _, rfl, _⟩ <;> rfl; done)
  | (rcases q with ⟨_, _, _, rfl, _⟩ | ⟨_, _, rfl, _⟩ <;> rfl; done)
  | (obtain ⟨rfl, _⟩ := q; rfl)
  | (obtain ⟨_, rfl, _⟩ := q; rfl)
  | (obtain ⟨_, _, rfl, _⟩ := q; rfl)
  | (obtain ⟨_, _, _, rfl, _⟩ := q; rfl)
  | (obtain ⟨_, _, _, _, rfl, _⟩ := q; rfl)
  | (rcases q with ⟨_, _, _, _, rfl, _⟩ | ⟨_, _, _, rfl, _⟩ <;> rfl)
  | (rcases q with ⟨_, _, _, rfl, _⟩ | ⟨_, _, rfl, _⟩ <;> rfl)
theorem len_is_word : ∀ ds R, g_is_word ds R → ds.length = 1 := by
  intro ds R q
  unfold g_is_word at q
  first
  | (rcases q with ⟨_, _, _, _, rfl, _⟩ | ⟨_, _, _, rfl, _⟩ <;> rfl; done)
  | (rcases q with ⟨_, _, _, rfl, _⟩ | ⟨_, _, rfl, _⟩ <;> rfl; done)
  | (obtain ⟨rfl, _⟩ := q; rfl)
  | (obtain ⟨_, rfl, _⟩ := q; rfl)
  | (obtain ⟨_, _, rfl, _⟩ := q; rfl)
  | (obtain ⟨_, _, _, rfl, _⟩ := q; rfl)
  | (obtain ⟨_, _, _, _, rfl, _⟩ := q; rfl)
  | (rcases q with ⟨_, _, _, _, rfl, _⟩ | ⟨_, _, _, rfl, _⟩ <;> rfl)
  | (rcases q with ⟨_, _, _, rfl, _⟩ | ⟨_, _, rfl, _⟩ <;> rfl)
theorem len_is_book : ∀ ds R, g_is_book ds R → ds.length = 1 := by
  intro ds R q
  unfold g_is_book at q
  first
  | (rcases q with ⟨_, _, _, _, rfl, _⟩ | ⟨_, _, _, rfl, _⟩ <;> rfl; done)
  | (rcases q with ⟨_, _, _, rfl, _⟩ | ⟨_, _, rfl, _⟩ <;> rfl; done)
  | (obtain ⟨rfl, _⟩ := q; rfl)
  | (obtain ⟨_, rfl, _⟩ := q; rfl)
  | (obtain ⟨_, _, rfl, _⟩ := q; rfl)
  | (obtain ⟨_, _, _, rfl, _⟩ := q; rfl)
  | (obtain ⟨_, _, _, _, rfl, _⟩ := q; rfl)
  | (rcases q with ⟨_, _, _, _, rfl, _⟩ | ⟨_, _, _, rfl, _⟩ <;> rfl)
  | (rcases q with ⟨_, _, _, rfl, _⟩ | ⟨_, _, rfl, _⟩ <;> rfl)
theorem len_check_book : ∀ ds R, g_check_book ds R → ds.length = 1 := by
  intro ds R q
  unfold g_check_book at q
  first
  | (rcases q with ⟨_, _, _, _, rfl, _⟩ | ⟨_, _, _, rfl, _⟩ <;> rfl; done)
  | (rcases q with ⟨_, _, _, rfl, _⟩ | ⟨_, _, rfl, _⟩ <;> rfl; done)
  | (obtain ⟨rfl, _⟩ := q; rfl)
  | (obtain ⟨_, rfl, _⟩ := q; rfl)
  | (obtain ⟨_, _, rfl, _⟩ := q; rfl)
  | (obtain ⟨_, _, _, rfl, _⟩ := q; rfl)
  | (obtain ⟨_, _, _, _, rfl, _⟩ := q; rfl)
  | (rcases q with ⟨_, _, _, _, rfl, _⟩ | ⟨_, _, _, rfl, _⟩ <;> rfl)
  | (rcases q with ⟨_, _, _, rfl, _⟩ | ⟨_, _, rfl, _⟩ <;> rfl)
theorem len_are_within : ∀ ds R, g_are_within ds R → ds.length = 3 := by
  intro ds R q
  unfold g_are_within at q
  first
  | (rcases q with ⟨_, _, _, _, rfl, _⟩ | ⟨_, _, _, rfl, _⟩ <;> rfl; done)
  | (rcases q with ⟨_, _, _, rfl, _⟩ | ⟨_, _, rfl, _⟩ <;> rfl; done)
  | (obtain ⟨rfl, _⟩ := q; rfl)
  | (obtain ⟨_, rfl, _⟩ := q; rfl)
  | (obtain ⟨_, _, rfl, _⟩ := q; rfl)
  | (obtain ⟨_, _, _, rfl, _⟩ := q; rfl)
  | (obtain ⟨_, _, _, _, rfl, _⟩ := q; rfl)
  | (rcases q with ⟨_, _, _, _, rfl, _⟩ | ⟨_, _, _, rfl, _⟩ <;> rfl)
  | (rcases q with ⟨_, _, _, rfl, _⟩ | ⟨_, _, rfl, _⟩ <;> rfl)
theorem len_is_order : ∀ ds R, g_is_order ds R → ds.length = 2 := by
  intro ds R q
  unfold g_is_order at q
  first
  | (rcases q with ⟨_, _, _, _, rfl, _⟩ | ⟨_, _, _, rfl, _⟩ <;> rfl; done)
  | (rcases q with ⟨_, _, _, rfl, _⟩ | ⟨_, _, rfl, _⟩ <;> rfl; done)
  | (obtain ⟨rfl, _⟩ := q; rfl)
  | (obtain ⟨_, rfl, _⟩ := q; rfl)
  | (obtain ⟨_, _, rfl, _⟩ := q; rfl)
  | (obtain ⟨_, _, _, rfl, _⟩ := q; rfl)
  | (obtain ⟨_, _, _, _, rfl, _⟩ := q; rfl)
  | (rcases q with ⟨_, _, _, _, rfl, _⟩ | ⟨_, _, _, rfl, _⟩ <;> rfl)
  | (rcases q with ⟨_, _, _, rfl, _⟩ | ⟨_, _, rfl, _⟩ <;> rfl)
theorem len_does_hook : ∀ ds R, g_does_hook ds R → ds.length = 2 := by
  intro ds R q
  unfold g_does_hook at q
  first
  | (rcases q with ⟨_, _, _, _, rfl, _⟩ | ⟨_, _, _, rfl, _⟩ <;> rfl; done)
  | (rcases q with ⟨_, _, _, rfl, _⟩ | ⟨_, _, rfl, _⟩ <;> rfl; done)
  | (obtain ⟨rfl, _⟩ := q; rfl)
  | (obtain ⟨_, rfl, _⟩ := q; rfl)
  | (obtain ⟨_, _, rfl, _⟩ := q; rfl)
  | (obtain ⟨_, _, _, rfl, _⟩ := q; rfl)
  | (obtain ⟨_, _, _, _, rfl, _⟩ := q; rfl)
  | (rcases q with ⟨_, _, _, _, rfl, _⟩ | ⟨_, _, _, rfl, _⟩ <;> rfl)
  | (rcases q with ⟨_, _, _, rfl, _⟩ | ⟨_, _, rfl, _⟩ <;> rfl)
theorem len_is_chain : ∀ ds R, g_is_chain ds R → ds.length = 2 := by
  intro ds R q
  unfold g_is_chain at q
  first
  | (rcases q with ⟨_, _, _, _, rfl, _⟩ | ⟨_, _, _, rfl, _⟩ <;> rfl; done)
  | (rcases q with ⟨_, _, _, rfl, _⟩ | ⟨_, _, rfl, _⟩ <;> rfl; done)
  | (obtain ⟨rfl, _⟩ := q; rfl)
  | (obtain ⟨_, rfl, _⟩ := q; rfl)
  | (obtain ⟨_, _, rfl, _⟩ := q; rfl)
  | (obtain ⟨_, _, _, rfl, _⟩ := q; rfl)
  | (obtain ⟨_, _, _, _, rfl, _⟩ := q; rfl)
  | (rcases q with ⟨_, _, _, _, rfl, _⟩ | ⟨_, _, _, rfl, _⟩ <;> rfl)
  | (rcases q with ⟨_, _, _, rfl, _⟩ | ⟨_, _, rfl, _⟩ <;> rfl)
theorem len_surplus_of : ∀ ds R, g_surplus_of ds R → ds.length = 1 := by
  intro ds R q
  unfold g_surplus_of at q
  first
  | (rcases q with ⟨_, _, _, _, rfl, _⟩ | ⟨_, _, _, rfl, _⟩ <;> rfl; done)
  | (rcases q with ⟨_, _, _, rfl, _⟩ | ⟨_, _, rfl, _⟩ <;> rfl; done)
  | (obtain ⟨rfl, _⟩ := q; rfl)
  | (obtain ⟨_, rfl, _⟩ := q; rfl)
  | (obtain ⟨_, _, rfl, _⟩ := q; rfl)
  | (obtain ⟨_, _, _, rfl, _⟩ := q; rfl)
  | (obtain ⟨_, _, _, _, rfl, _⟩ := q; rfl)
  | (rcases q with ⟨_, _, _, _, rfl, _⟩ | ⟨_, _, _, rfl, _⟩ <;> rfl)
  | (rcases q with ⟨_, _, _, rfl, _⟩ | ⟨_, _, rfl, _⟩ <;> rfl)
theorem len_together_with : ∀ ds R, g_together_with ds R → ds.length = 2 := by
  intro ds R q
  unfold g_together_with at q
  first
  | (rcases q with ⟨_, _, _, _, rfl, _⟩ | ⟨_, _, _, rfl, _⟩ <;> rfl; done)
  | (rcases q with ⟨_, _, _, rfl, _⟩ | ⟨_, _, rfl, _⟩ <;> rfl; done)
  | (obtain ⟨rfl, _⟩ := q; rfl)
  | (obtain ⟨_, rfl, _⟩ := q; rfl)
  | (obtain ⟨_, _, rfl, _⟩ := q; rfl)
  | (obtain ⟨_, _, _, rfl, _⟩ := q; rfl)
  | (obtain ⟨_, _, _, _, rfl, _⟩ := q; rfl)
  | (rcases q with ⟨_, _, _, _, rfl, _⟩ | ⟨_, _, _, rfl, _⟩ <;> rfl)
  | (rcases q with ⟨_, _, _, rfl, _⟩ | ⟨_, _, rfl, _⟩ <;> rfl)
theorem len_are_even_enough : ∀ ds R, g_are_even_enough ds R → ds.length = 1 := by
  intro ds R q
  unfold g_are_even_enough at q
  first
  | (rcases q with ⟨_, _, _, _, rfl, _⟩ | ⟨_, _, _, rfl, _⟩ <;> rfl; done)
  | (rcases q with ⟨_, _, _, rfl, _⟩ | ⟨_, _, rfl, _⟩ <;> rfl; done)
  | (obtain ⟨rfl, _⟩ := q; rfl)
  | (obtain ⟨_, rfl, _⟩ := q; rfl)
  | (obtain ⟨_, _, rfl, _⟩ := q; rfl)
  | (obtain ⟨_, _, _, rfl, _⟩ := q; rfl)
  | (obtain ⟨_, _, _, _, rfl, _⟩ := q; rfl)
  | (rcases q with ⟨_, _, _, _, rfl, _⟩ | ⟨_, _, _, rfl, _⟩ <;> rfl)
  | (rcases q with ⟨_, _, _, rfl, _⟩ | ⟨_, _, rfl, _⟩ <;> rfl)
theorem len_can_go_on : ∀ ds R, g_can_go_on ds R → ds.length = 2 := by
  intro ds R q
  unfold g_can_go_on at q
  first
  | (rcases q with ⟨_, _, _, _, rfl, _⟩ | ⟨_, _, _, rfl, _⟩ <;> rfl; done)
  | (rcases q with ⟨_, _, _, rfl, _⟩ | ⟨_, _, rfl, _⟩ <;> rfl; done)
  | (obtain ⟨rfl, _⟩ := q; rfl)
  | (obtain ⟨_, rfl, _⟩ := q; rfl)
  | (obtain ⟨_, _, rfl, _⟩ := q; rfl)
  | (obtain ⟨_, _, _, rfl, _⟩ := q; rfl)
  | (obtain ⟨_, _, _, _, rfl, _⟩ := q; rfl)
  | (rcases q with ⟨_, _, _, _, rfl, _⟩ | ⟨_, _, _, rfl, _⟩ <;> rfl)
  | (rcases q with ⟨_, _, _, rfl, _⟩ | ⟨_, _, rfl, _⟩ <;> rfl)
theorem len_chain : ∀ ds R, g_chain ds R → ds.length = 1 := by
  intro ds R q
  unfold g_chain at q
  first
  | (rcases q with ⟨_, _, _, _, rfl, _⟩ | ⟨_, _, _, rfl, _⟩ <;> rfl; done)
  | (rcases q with ⟨_, _, _, rfl, _⟩ | ⟨_, _, rfl, _⟩ <;> rfl; done)
  | (obtain ⟨rfl, _⟩ := q; rfl)
  | (obtain ⟨_, rfl, _⟩ := q; rfl)
  | (obtain ⟨_, _, rfl, _⟩ := q; rfl)
  | (obtain ⟨_, _, _, rfl, _⟩ := q; rfl)
  | (obtain ⟨_, _, _, _, rfl, _⟩ := q; rfl)
  | (rcases q with ⟨_, _, _, _, rfl, _⟩ | ⟨_, _, _, rfl, _⟩ <;> rfl)
  | (rcases q with ⟨_, _, _, rfl, _⟩ | ⟨_, _, rfl, _⟩ <;> rfl)
theorem len_bar : ∀ ds R, g_bar ds R → ds.length = 1 := by
  intro ds R q
  unfold g_bar at q
  first
  | (rcases q with ⟨_, _, _, _, rfl, _⟩ | ⟨_, _, _, rfl, _⟩ <;> rfl; done)
  | (rcases q with ⟨_, _, _, rfl, _⟩ | ⟨_, _, rfl, _⟩ <;> rfl; done)
  | (obtain ⟨rfl, _⟩ := q; rfl)
  | (obtain ⟨_, rfl, _⟩ := q; rfl)
  | (obtain ⟨_, _, rfl, _⟩ := q; rfl)
  | (obtain ⟨_, _, _, rfl, _⟩ := q; rfl)
  | (obtain ⟨_, _, _, _, rfl, _⟩ := q; rfl)
  | (rcases q with ⟨_, _, _, _, rfl, _⟩ | ⟨_, _, _, rfl, _⟩ <;> rfl)
  | (rcases q with ⟨_, _, _, rfl, _⟩ | ⟨_, _, rfl, _⟩ <;> rfl)
theorem len__law_any : ∀ ds R, g__law_any ds R → ds.length = 2 := by
  intro ds R q
  unfold g__law_any at q
  first
  | (rcases q with ⟨_, _, _, _, rfl, _⟩ | ⟨_, _, _, rfl, _⟩ <;> rfl; done)
  | (rcases q with ⟨_, _, _, rfl, _⟩ | ⟨_, _, rfl, _⟩ <;> rfl; done)
  | (obtain ⟨rfl, _⟩ := q; rfl)
  | (obtain ⟨_, rfl, _⟩ := q; rfl)
  | (obtain ⟨_, _, rfl, _⟩ := q; rfl)
  | (obtain ⟨_, _, _, rfl, _⟩ := q; rfl)
  | (obtain ⟨_, _, _, _, rfl, _⟩ := q; rfl)
  | (rcases q with ⟨_, _, _, _, rfl, _⟩ | ⟨_, _, _, rfl, _⟩ <;> rfl)
  | (rcases q with ⟨_, _, _, rfl, _⟩ | ⟨_, _, rfl, _⟩ <;> rfl)
theorem len__law_mixed : ∀ ds R, g__law_mixed ds R → ds.length = 2 := by
  intro ds R q
  unfold g__law_mixed at q
  first
  | (rcases q with ⟨_, _, _, _, rfl, _⟩ | ⟨_, _, _, rfl, _⟩ <;> rfl; done)
  | (rcases q with ⟨_, _, _, rfl, _⟩ | ⟨_, _, rfl, _⟩ <;> rfl; done)
  | (obtain ⟨rfl, _⟩ := q; rfl)
  | (obtain ⟨_, rfl, _⟩ := q; rfl)
  | (obtain ⟨_, _, rfl, _⟩ := q; rfl)
  | (obtain ⟨_, _, _, rfl, _⟩ := q; rfl)
  | (obtain ⟨_, _, _, _, rfl, _⟩ := q; rfl)
  | (rcases q with ⟨_, _, _, _, rfl, _⟩ | ⟨_, _, _, rfl, _⟩ <;> rfl)
  | (rcases q with ⟨_, _, _, rfl, _⟩ | ⟨_, _, rfl, _⟩ <;> rfl)
theorem len__law_letters : ∀ ds R, g__law_letters ds R → ds.length = 2 := by
  intro ds R q
  unfold g__law_letters at q
  first
  | (rcases q with ⟨_, _, _, _, rfl, _⟩ | ⟨_, _, _, rfl, _⟩ <;> rfl; done)
  | (rcases q with ⟨_, _, _, rfl, _⟩ | ⟨_, _, rfl, _⟩ <;> rfl; done)
  | (obtain ⟨rfl, _⟩ := q; rfl)
  | (obtain ⟨_, rfl, _⟩ := q; rfl)
  | (obtain ⟨_, _, rfl, _⟩ := q; rfl)
  | (obtain ⟨_, _, _, rfl, _⟩ := q; rfl)
  | (obtain ⟨_, _, _, _, rfl, _⟩ := q; rfl)
  | (rcases q with ⟨_, _, _, _, rfl, _⟩ | ⟨_, _, _, rfl, _⟩ <;> rfl)
  | (rcases q with ⟨_, _, _, rfl, _⟩ | ⟨_, _, rfl, _⟩ <;> rfl)
theorem len__law_walk : ∀ ds R, g__law_walk ds R → ds.length = 3 := by
  intro ds R q
  unfold g__law_walk at q
  first
  | (rcases q with ⟨_, _, _, _, rfl, _⟩ | ⟨_, _, _, rfl, _⟩ <;> rfl; done)
  | (rcases q with ⟨_, _, _, rfl, _⟩ | ⟨_, _, rfl, _⟩ <;> rfl; done)
  | (obtain ⟨rfl, _⟩ := q; rfl)
  | (obtain ⟨_, rfl, _⟩ := q; rfl)
  | (obtain ⟨_, _, rfl, _⟩ := q; rfl)
  | (obtain ⟨_, _, _, rfl, _⟩ := q; rfl)
  | (obtain ⟨_, _, _, _, rfl, _⟩ := q; rfl)
  | (rcases q with ⟨_, _, _, _, rfl, _⟩ | ⟨_, _, _, rfl, _⟩ <;> rfl)
  | (rcases q with ⟨_, _, _, rfl, _⟩ | ⟨_, _, rfl, _⟩ <;> rfl)
theorem len__law_odd : ∀ ds R, g__law_odd ds R → ds.length = 1 := by
  intro ds R q
  unfold g__law_odd at q
  first
  | (rcases q with ⟨_, _, _, _, rfl, _⟩ | ⟨_, _, _, rfl, _⟩ <;> rfl; done)
  | (rcases q with ⟨_, _, _, rfl, _⟩ | ⟨_, _, rfl, _⟩ <;> rfl; done)
  | (obtain ⟨rfl, _⟩ := q; rfl)
  | (obtain ⟨_, rfl, _⟩ := q; rfl)
  | (obtain ⟨_, _, rfl, _⟩ := q; rfl)
  | (obtain ⟨_, _, _, rfl, _⟩ := q; rfl)
  | (obtain ⟨_, _, _, _, rfl, _⟩ := q; rfl)
  | (rcases q with ⟨_, _, _, _, rfl, _⟩ | ⟨_, _, _, rfl, _⟩ <;> rfl)
  | (rcases q with ⟨_, _, _, rfl, _⟩ | ⟨_, _, rfl, _⟩ <;> rfl)
theorem len__law_hanging : ∀ ds R, g__law_hanging ds R → ds.length = 1 := by
  intro ds R q
  unfold g__law_hanging at q
  first
  | (rcases q with ⟨_, _, _, _, rfl, _⟩ | ⟨_, _, _, rfl, _⟩ <;> rfl; done)
  | (rcases q with ⟨_, _, _, rfl, _⟩ | ⟨_, _, rfl, _⟩ <;> rfl; done)
  | (obtain ⟨rfl, _⟩ := q; rfl)
  | (obtain ⟨_, rfl, _⟩ := q; rfl)
  | (obtain ⟨_, _, rfl, _⟩ := q; rfl)
  | (obtain ⟨_, _, _, rfl, _⟩ := q; rfl)
  | (obtain ⟨_, _, _, _, rfl, _⟩ := q; rfl)
  | (rcases q with ⟨_, _, _, _, rfl, _⟩ | ⟨_, _, _, rfl, _⟩ <;> rfl)
  | (rcases q with ⟨_, _, _, rfl, _⟩ | ⟨_, _, rfl, _⟩ <;> rfl)
theorem len__law_is_one : ∀ ds R, g__law_is_one ds R → ds.length = 2 := by
  intro ds R q
  unfold g__law_is_one at q
  first
  | (rcases q with ⟨_, _, _, _, rfl, _⟩ | ⟨_, _, _, rfl, _⟩ <;> rfl; done)
  | (rcases q with ⟨_, _, _, rfl, _⟩ | ⟨_, _, rfl, _⟩ <;> rfl; done)
  | (obtain ⟨rfl, _⟩ := q; rfl)
  | (obtain ⟨_, rfl, _⟩ := q; rfl)
  | (obtain ⟨_, _, rfl, _⟩ := q; rfl)
  | (obtain ⟨_, _, _, rfl, _⟩ := q; rfl)
  | (obtain ⟨_, _, _, _, rfl, _⟩ := q; rfl)
  | (rcases q with ⟨_, _, _, _, rfl, _⟩ | ⟨_, _, _, rfl, _⟩ <;> rfl)
  | (rcases q with ⟨_, _, _, rfl, _⟩ | ⟨_, _, rfl, _⟩ <;> rfl)
theorem len__law_is_right : ∀ ds R, g__law_is_right ds R → ds.length = 1 := by
  intro ds R q
  unfold g__law_is_right at q
  first
  | (rcases q with ⟨_, _, _, _, rfl, _⟩ | ⟨_, _, _, rfl, _⟩ <;> rfl; done)
  | (rcases q with ⟨_, _, _, rfl, _⟩ | ⟨_, _, rfl, _⟩ <;> rfl; done)
  | (obtain ⟨rfl, _⟩ := q; rfl)
  | (obtain ⟨_, rfl, _⟩ := q; rfl)
  | (obtain ⟨_, _, rfl, _⟩ := q; rfl)
  | (obtain ⟨_, _, _, rfl, _⟩ := q; rfl)
  | (obtain ⟨_, _, _, _, rfl, _⟩ := q; rfl)
  | (rcases q with ⟨_, _, _, _, rfl, _⟩ | ⟨_, _, _, rfl, _⟩ <;> rfl)
  | (rcases q with ⟨_, _, _, rfl, _⟩ | ⟨_, _, rfl, _⟩ <;> rfl)
theorem all_mk {l : PySem.W.OpenLaw} {w : World} {K : PySem.W.Frag} {h : Heap} {mg : Str → Option Value} {fa : Addr} (X : K.In h) (G : h.Ns mainGlobals mg) (hfa : mg "law" = some (.ref fa))
    {f0 : Addr} {od0 an0 : Option Addr} {sl0 : Array (Option Value)} {oc0 kV0 dc0 pm0 cd0 ct0 : Value}
    (a0 : PySem.W.nsIn K mainGlobals "_law_hand" = some (some (.ref f0))) (l0 : K.lookup f0 = some ⟨oc0, od0, .func (PySem.W.fnOf "_law_hand" "_law_hand" (defArgs s__law_hand) (defBody s__law_hand) (defScope s__law_hand) .none kV0 dc0 pm0 an0 cd0 ct0), sl0⟩) (c0 : PySem.W.codeIn K cd0 "_law_hand" = true) (k0 : PySem.W.keepIn K (.ref f0) = true)
    {f1 : Addr} {od1 an1 : Option Addr} {sl1 : Array (Option Value)} {oc1 kV1 dc1 pm1 cd1 ct1 : Value}
    (a1 : PySem.W.nsIn K mainGlobals "_law_draw" = some (some (.ref f1))) (l1 : K.lookup f1 = some ⟨oc1, od1, .func (PySem.W.fnOf "_law_draw" "_law_draw" (defArgs s__law_draw) (defBody s__law_draw) (defScope s__law_draw) .none kV1 dc1 pm1 an1 cd1 ct1), sl1⟩) (c1 : PySem.W.codeIn K cd1 "_law_draw" = true) (k1 : PySem.W.keepIn K (.ref f1) = true)
    {f2 : Addr} {od2 an2 : Option Addr} {sl2 : Array (Option Value)} {oc2 kV2 dc2 pm2 cd2 ct2 : Value}
    (a2 : PySem.W.nsIn K mainGlobals "is_integer" = some (some (.ref f2))) (l2 : K.lookup f2 = some ⟨oc2, od2, .func (PySem.W.fnOf "is_integer" "is_integer" (defArgs s_is_integer) (defBody s_is_integer) (defScope s_is_integer) .none kV2 dc2 pm2 an2 cd2 ct2), sl2⟩) (c2 : PySem.W.codeIn K cd2 "is_integer" = true) (k2 : PySem.W.keepIn K (.ref f2) = true)
    {f3 : Addr} {od3 an3 : Option Addr} {sl3 : Array (Option Value)} {oc3 kV3 dc3 pm3 cd3 ct3 : Value}
    (a3 : PySem.W.nsIn K mainGlobals "is_within" = some (some (.ref f3))) (l3 : K.lookup f3 = some ⟨oc3, od3, .func (PySem.W.fnOf "is_within" "is_within" (defArgs s_is_within) (defBody s_is_within) (defScope s_is_within) .none kV3 dc3 pm3 an3 cd3 ct3), sl3⟩) (c3 : PySem.W.codeIn K cd3 "is_within" = true) (k3 : PySem.W.keepIn K (.ref f3) = true)
    {f4 : Addr} {od4 an4 : Option Addr} {sl4 : Array (Option Value)} {oc4 kV4 dc4 pm4 cd4 ct4 : Value}
    (a4 : PySem.W.nsIn K mainGlobals "is_letters" = some (some (.ref f4))) (l4 : K.lookup f4 = some ⟨oc4, od4, .func (PySem.W.fnOf "is_letters" "is_letters" (defArgs s_is_letters) (defBody s_is_letters) (defScope s_is_letters) .none kV4 dc4 pm4 an4 cd4 ct4), sl4⟩) (c4 : PySem.W.codeIn K cd4 "is_letters" = true) (k4 : PySem.W.keepIn K (.ref f4) = true)
    {f5 : Addr} {od5 an5 : Option Addr} {sl5 : Array (Option Value)} {oc5 kV5 dc5 pm5 cd5 ct5 : Value}
    (a5 : PySem.W.nsIn K mainGlobals "is_word" = some (some (.ref f5))) (l5 : K.lookup f5 = some ⟨oc5, od5, .func (PySem.W.fnOf "is_word" "is_word" (defArgs s_is_word) (defBody s_is_word) (defScope s_is_word) .none kV5 dc5 pm5 an5 cd5 ct5), sl5⟩) (c5 : PySem.W.codeIn K cd5 "is_word" = true) (k5 : PySem.W.keepIn K (.ref f5) = true)
    {f6 : Addr} {od6 an6 : Option Addr} {sl6 : Array (Option Value)} {oc6 kV6 dc6 pm6 cd6 ct6 : Value}
    (a6 : PySem.W.nsIn K mainGlobals "is_book" = some (some (.ref f6))) (l6 : K.lookup f6 = some ⟨oc6, od6, .func (PySem.W.fnOf "is_book" "is_book" (defArgs s_is_book) (defBody s_is_book) (defScope s_is_book) .none kV6 dc6 pm6 an6 cd6 ct6), sl6⟩) (c6 : PySem.W.codeIn K cd6 "is_book" = true) (k6 : PySem.W.keepIn K (.ref f6) = true)
    {f7 : Addr} {od7 an7 : Option Addr} {sl7 : Array (Option Value)} {oc7 kV7 dc7 pm7 cd7 ct7 : Value}
    (a7 : PySem.W.nsIn K mainGlobals "check_book" = some (some (.ref f7))) (l7 : K.lookup f7 = some ⟨oc7, od7, .func (PySem.W.fnOf "check_book" "check_book" (defArgs s_check_book) (defBody s_check_book) (defScope s_check_book) .none kV7 dc7 pm7 an7 cd7 ct7), sl7⟩) (c7 : PySem.W.codeIn K cd7 "check_book" = true) (k7 : PySem.W.keepIn K (.ref f7) = true)
    {f8 : Addr} {od8 an8 : Option Addr} {sl8 : Array (Option Value)} {oc8 kV8 dc8 pm8 cd8 ct8 : Value}
    (a8 : PySem.W.nsIn K mainGlobals "are_within" = some (some (.ref f8))) (l8 : K.lookup f8 = some ⟨oc8, od8, .func (PySem.W.fnOf "are_within" "are_within" (defArgs s_are_within) (defBody s_are_within) (defScope s_are_within) .none kV8 dc8 pm8 an8 cd8 ct8), sl8⟩) (c8 : PySem.W.codeIn K cd8 "are_within" = true) (k8 : PySem.W.keepIn K (.ref f8) = true)
    {f9 : Addr} {od9 an9 : Option Addr} {sl9 : Array (Option Value)} {oc9 kV9 dc9 pm9 cd9 ct9 : Value}
    (a9 : PySem.W.nsIn K mainGlobals "is_order" = some (some (.ref f9))) (l9 : K.lookup f9 = some ⟨oc9, od9, .func (PySem.W.fnOf "is_order" "is_order" (defArgs s_is_order) (defBody s_is_order) (defScope s_is_order) .none kV9 dc9 pm9 an9 cd9 ct9), sl9⟩) (c9 : PySem.W.codeIn K cd9 "is_order" = true) (k9 : PySem.W.keepIn K (.ref f9) = true)
    {f10 : Addr} {od10 an10 : Option Addr} {sl10 : Array (Option Value)} {oc10 kV10 dc10 pm10 cd10 ct10 : Value}
    (a10 : PySem.W.nsIn K mainGlobals "does_hook" = some (some (.ref f10))) (l10 : K.lookup f10 = some ⟨oc10, od10, .func (PySem.W.fnOf "does_hook" "does_hook" (defArgs s_does_hook) (defBody s_does_hook) (defScope s_does_hook) .none kV10 dc10 pm10 an10 cd10 ct10), sl10⟩) (c10 : PySem.W.codeIn K cd10 "does_hook" = true) (k10 : PySem.W.keepIn K (.ref f10) = true)
    {f11 : Addr} {od11 an11 : Option Addr} {sl11 : Array (Option Value)} {oc11 kV11 dc11 pm11 cd11 ct11 : Value}
    (a11 : PySem.W.nsIn K mainGlobals "is_chain" = some (some (.ref f11))) (l11 : K.lookup f11 = some ⟨oc11, od11, .func (PySem.W.fnOf "is_chain" "is_chain" (defArgs s_is_chain) (defBody s_is_chain) (defScope s_is_chain) .none kV11 dc11 pm11 an11 cd11 ct11), sl11⟩) (c11 : PySem.W.codeIn K cd11 "is_chain" = true) (k11 : PySem.W.keepIn K (.ref f11) = true)
    {f12 : Addr} {od12 an12 : Option Addr} {sl12 : Array (Option Value)} {oc12 kV12 dc12 pm12 cd12 ct12 : Value}
    (a12 : PySem.W.nsIn K mainGlobals "surplus_of" = some (some (.ref f12))) (l12 : K.lookup f12 = some ⟨oc12, od12, .func (PySem.W.fnOf "surplus_of" "surplus_of" (defArgs s_surplus_of) (defBody s_surplus_of) (defScope s_surplus_of) .none kV12 dc12 pm12 an12 cd12 ct12), sl12⟩) (c12 : PySem.W.codeIn K cd12 "surplus_of" = true) (k12 : PySem.W.keepIn K (.ref f12) = true)
    {f13 : Addr} {od13 an13 : Option Addr} {sl13 : Array (Option Value)} {oc13 kV13 dc13 pm13 cd13 ct13 : Value}
    (a13 : PySem.W.nsIn K mainGlobals "together_with" = some (some (.ref f13))) (l13 : K.lookup f13 = some ⟨oc13, od13, .func (PySem.W.fnOf "together_with" "together_with" (defArgs s_together_with) (defBody s_together_with) (defScope s_together_with) .none kV13 dc13 pm13 an13 cd13 ct13), sl13⟩) (c13 : PySem.W.codeIn K cd13 "together_with" = true) (k13 : PySem.W.keepIn K (.ref f13) = true)
    {f14 : Addr} {od14 an14 : Option Addr} {sl14 : Array (Option Value)} {oc14 kV14 dc14 pm14 cd14 ct14 : Value}
    (a14 : PySem.W.nsIn K mainGlobals "are_even_enough" = some (some (.ref f14))) (l14 : K.lookup f14 = some ⟨oc14, od14, .func (PySem.W.fnOf "are_even_enough" "are_even_enough" (defArgs s_are_even_enough) (defBody s_are_even_enough) (defScope s_are_even_enough) .none kV14 dc14 pm14 an14 cd14 ct14), sl14⟩) (c14 : PySem.W.codeIn K cd14 "are_even_enough" = true) (k14 : PySem.W.keepIn K (.ref f14) = true)
    {f15 : Addr} {od15 an15 : Option Addr} {sl15 : Array (Option Value)} {oc15 kV15 dc15 pm15 cd15 ct15 : Value}
    (a15 : PySem.W.nsIn K mainGlobals "can_go_on" = some (some (.ref f15))) (l15 : K.lookup f15 = some ⟨oc15, od15, .func (PySem.W.fnOf "can_go_on" "can_go_on" (defArgs s_can_go_on) (defBody s_can_go_on) (defScope s_can_go_on) .none kV15 dc15 pm15 an15 cd15 ct15), sl15⟩) (c15 : PySem.W.codeIn K cd15 "can_go_on" = true) (k15 : PySem.W.keepIn K (.ref f15) = true)
    {f16 : Addr} {od16 an16 : Option Addr} {sl16 : Array (Option Value)} {oc16 kV16 dc16 pm16 cd16 ct16 : Value}
    (a16 : PySem.W.nsIn K mainGlobals "chain" = some (some (.ref f16))) (l16 : K.lookup f16 = some ⟨oc16, od16, .func (PySem.W.fnOf "chain" "chain" (defArgs s_chain) (defBody s_chain) (defScope s_chain) .none kV16 dc16 pm16 an16 cd16 ct16), sl16⟩) (c16 : PySem.W.codeIn K cd16 "chain" = true) (k16 : PySem.W.keepIn K (.ref f16) = true)
    {f17 : Addr} {od17 an17 : Option Addr} {sl17 : Array (Option Value)} {oc17 kV17 dc17 pm17 cd17 ct17 : Value}
    (a17 : PySem.W.nsIn K mainGlobals "bar" = some (some (.ref f17))) (l17 : K.lookup f17 = some ⟨oc17, od17, .func (PySem.W.fnOf "bar" "bar" (defArgs s_bar) (defBody s_bar) (defScope s_bar) .none kV17 dc17 pm17 an17 cd17 ct17), sl17⟩) (c17 : PySem.W.codeIn K cd17 "bar" = true) (k17 : PySem.W.keepIn K (.ref f17) = true)
    {f18 : Addr} {od18 an18 : Option Addr} {sl18 : Array (Option Value)} {oc18 kV18 dc18 pm18 cd18 ct18 : Value}
    (a18 : PySem.W.nsIn K mainGlobals "_law_any" = some (some (.ref f18))) (l18 : K.lookup f18 = some ⟨oc18, od18, .func (PySem.W.fnOf "_law_any" "_law_any" (defArgs s__law_any) (defBody s__law_any) (defScope s__law_any) .none kV18 dc18 pm18 an18 cd18 ct18), sl18⟩) (c18 : PySem.W.codeIn K cd18 "_law_any" = true) (k18 : PySem.W.keepIn K (.ref f18) = true)
    {f19 : Addr} {od19 an19 : Option Addr} {sl19 : Array (Option Value)} {oc19 kV19 dc19 pm19 cd19 ct19 : Value}
    (a19 : PySem.W.nsIn K mainGlobals "_law_mixed" = some (some (.ref f19))) (l19 : K.lookup f19 = some ⟨oc19, od19, .func (PySem.W.fnOf "_law_mixed" "_law_mixed" (defArgs s__law_mixed) (defBody s__law_mixed) (defScope s__law_mixed) .none kV19 dc19 pm19 an19 cd19 ct19), sl19⟩) (c19 : PySem.W.codeIn K cd19 "_law_mixed" = true) (k19 : PySem.W.keepIn K (.ref f19) = true)
    {f20 : Addr} {od20 an20 : Option Addr} {sl20 : Array (Option Value)} {oc20 kV20 dc20 pm20 cd20 ct20 : Value}
    (a20 : PySem.W.nsIn K mainGlobals "_law_letters" = some (some (.ref f20))) (l20 : K.lookup f20 = some ⟨oc20, od20, .func (PySem.W.fnOf "_law_letters" "_law_letters" (defArgs s__law_letters) (defBody s__law_letters) (defScope s__law_letters) .none kV20 dc20 pm20 an20 cd20 ct20), sl20⟩) (c20 : PySem.W.codeIn K cd20 "_law_letters" = true) (k20 : PySem.W.keepIn K (.ref f20) = true)
    {f21 : Addr} {od21 an21 : Option Addr} {sl21 : Array (Option Value)} {oc21 kV21 dc21 pm21 cd21 ct21 : Value}
    (a21 : PySem.W.nsIn K mainGlobals "_law_walk" = some (some (.ref f21))) (l21 : K.lookup f21 = some ⟨oc21, od21, .func (PySem.W.fnOf "_law_walk" "_law_walk" (defArgs s__law_walk) (defBody s__law_walk) (defScope s__law_walk) .none kV21 dc21 pm21 an21 cd21 ct21), sl21⟩) (c21 : PySem.W.codeIn K cd21 "_law_walk" = true) (k21 : PySem.W.keepIn K (.ref f21) = true)
    {f22 : Addr} {od22 an22 : Option Addr} {sl22 : Array (Option Value)} {oc22 kV22 dc22 pm22 cd22 ct22 : Value}
    (a22 : PySem.W.nsIn K mainGlobals "_law_odd" = some (some (.ref f22))) (l22 : K.lookup f22 = some ⟨oc22, od22, .func (PySem.W.fnOf "_law_odd" "_law_odd" (defArgs s__law_odd) (defBody s__law_odd) (defScope s__law_odd) .none kV22 dc22 pm22 an22 cd22 ct22), sl22⟩) (c22 : PySem.W.codeIn K cd22 "_law_odd" = true) (k22 : PySem.W.keepIn K (.ref f22) = true)
    {f23 : Addr} {od23 an23 : Option Addr} {sl23 : Array (Option Value)} {oc23 kV23 dc23 pm23 cd23 ct23 : Value}
    (a23 : PySem.W.nsIn K mainGlobals "_law_hanging" = some (some (.ref f23))) (l23 : K.lookup f23 = some ⟨oc23, od23, .func (PySem.W.fnOf "_law_hanging" "_law_hanging" (defArgs s__law_hanging) (defBody s__law_hanging) (defScope s__law_hanging) .none kV23 dc23 pm23 an23 cd23 ct23), sl23⟩) (c23 : PySem.W.codeIn K cd23 "_law_hanging" = true) (k23 : PySem.W.keepIn K (.ref f23) = true)
    {f24 : Addr} {od24 an24 : Option Addr} {sl24 : Array (Option Value)} {oc24 kV24 dc24 pm24 cd24 ct24 : Value}
    (a24 : PySem.W.nsIn K mainGlobals "_law_is_one" = some (some (.ref f24))) (l24 : K.lookup f24 = some ⟨oc24, od24, .func (PySem.W.fnOf "_law_is_one" "_law_is_one" (defArgs s__law_is_one) (defBody s__law_is_one) (defScope s__law_is_one) .none kV24 dc24 pm24 an24 cd24 ct24), sl24⟩) (c24 : PySem.W.codeIn K cd24 "_law_is_one" = true) (k24 : PySem.W.keepIn K (.ref f24) = true)
    {f25 : Addr} {od25 an25 : Option Addr} {sl25 : Array (Option Value)} {oc25 kV25 dc25 pm25 cd25 ct25 : Value}
    (a25 : PySem.W.nsIn K mainGlobals "_law_is_right" = some (some (.ref f25))) (l25 : K.lookup f25 = some ⟨oc25, od25, .func (PySem.W.fnOf "_law_is_right" "_law_is_right" (defArgs s__law_is_right) (defBody s__law_is_right) (defScope s__law_is_right) .none kV25 dc25 pm25 an25 cd25 ct25), sl25⟩) (c25 : PySem.W.codeIn K cd25 "_law_is_right" = true) (k25 : PySem.W.keepIn K (.ref f25) = true)
    {f26 : Addr} {od26 an26 : Option Addr} {sl26 : Array (Option Value)} {oc26 kV26 dc26 pm26 cd26 ct26 : Value}
    (a26 : PySem.W.nsIn K mainGlobals "law" = some (some (.ref f26))) (l26 : K.lookup f26 = some ⟨oc26, od26, .func (PySem.W.fnOf "law" "law" (defArgs s_law) (defBody s_law) (defScope s_law) .none kV26 dc26 pm26 an26 cd26 ct26), sl26⟩) (c26 : PySem.W.codeIn K cd26 "law" = true) (k26 : PySem.W.keepIn K (.ref f26) = true)
    (z_all : PySem.W.nsIn K mainGlobals "all" = some none)
    (z_bool : PySem.W.nsIn K mainGlobals "bool" = some none)
    (z_dict : PySem.W.nsIn K mainGlobals "dict" = some none)
    (z_enumerate : PySem.W.nsIn K mainGlobals "enumerate" = some none)
    (z_int : PySem.W.nsIn K mainGlobals "int" = some none)
    (z_isinstance : PySem.W.nsIn K mainGlobals "isinstance" = some none)
    (z_len : PySem.W.nsIn K mainGlobals "len" = some none)
    (z_list : PySem.W.nsIn K mainGlobals "list" = some none)
    (z_range : PySem.W.nsIn K mainGlobals "range" = some none)
    (z_sorted : PySem.W.nsIn K mainGlobals "sorted" = some none)
    (z_str : PySem.W.nsIn K mainGlobals "str" = some none)
    (z_tuple : PySem.W.nsIn K mainGlobals "tuple" = some none)
    (z_zip : PySem.W.nsIn K mainGlobals "zip" = some none)
    (z_abs : PySem.W.nsIn K mainGlobals "abs" = some none)
    {u_LETTERS : Value} (g_LETTERS : PySem.W.nsIn K mainGlobals "LETTERS" = some (some u_LETTERS)) (r_LETTERS : RelV (.str "abcdefghijklmnopqrstuvwxyz") u_LETTERS)
    {u_MOST_LETTERS : Value} (g_MOST_LETTERS : PySem.W.nsIn K mainGlobals "MOST_LETTERS" = some (some u_MOST_LETTERS)) (r_MOST_LETTERS : RelV (.int 12) u_MOST_LETTERS)
    {u_MOST_WORDS : Value} (g_MOST_WORDS : PySem.W.nsIn K mainGlobals "MOST_WORDS" = some (some u_MOST_WORDS)) (r_MOST_WORDS : RelV (.int 60) u_MOST_WORDS) :
    ∃ fd : FuncData, (∀ (s : Shared) (v : Value), BindsTo s fd ⟨[v], []⟩ [("script", v)]) ∧ ∀ base : Heap, K.In base → base.Ns mainGlobals mg → FnOk l.prog w K mg base CX0 7 fa fd ["script"] (spLaw K) := by
  have e := hfa.symm.trans (PySem.W.mg_of X G a26)
  cases e
  have Fa : Facts mg := ⟨PySem.W.mg_none_of X G z_all, PySem.W.mg_none_of X G z_bool, PySem.W.mg_none_of X G z_dict, PySem.W.mg_none_of X G z_enumerate, PySem.W.mg_none_of X G z_int, PySem.W.mg_none_of X G z_isinstance, PySem.W.mg_none_of X G z_len, PySem.W.mg_none_of X G z_list, PySem.W.mg_none_of X G z_range, PySem.W.mg_none_of X G z_sorted, PySem.W.mg_none_of X G z_str, PySem.W.mg_none_of X G z_tuple, PySem.W.mg_none_of X G z_zip, ⟨_, PySem.W.mg_of X G g_LETTERS, r_LETTERS⟩, ⟨_, PySem.W.mg_of X G g_MOST_LETTERS, r_MOST_LETTERS⟩, ⟨_, PySem.W.mg_of X G g_MOST_WORDS, r_MOST_WORDS⟩⟩
  have F0 := fun_mk (st := s__law_hand) l0 c0 k0
  have F1 := fun_mk (st := s__law_draw) l1 c1 k1
  have F2 := fun_mk (st := s_is_integer) l2 c2 k2
  have F3 := fun_mk (st := s_is_within) l3 c3 k3
  have F4 := fun_mk (st := s_is_letters) l4 c4 k4
  have F5 := fun_mk (st := s_is_word) l5 c5 k5
  have F6 := fun_mk (st := s_is_book) l6 c6 k6
  have F7 := fun_mk (st := s_check_book) l7 c7 k7
  have F8 := fun_mk (st := s_are_within) l8 c8 k8
  have F9 := fun_mk (st := s_is_order) l9 c9 k9
  have F10 := fun_mk (st := s_does_hook) l10 c10 k10
  have F11 := fun_mk (st := s_is_chain) l11 c11 k11
  have F12 := fun_mk (st := s_surplus_of) l12 c12 k12
  have F13 := fun_mk (st := s_together_with) l13 c13 k13
  have F14 := fun_mk (st := s_are_even_enough) l14 c14 k14
  have F15 := fun_mk (st := s_can_go_on) l15 c15 k15
  have F16 := fun_mk (st := s_chain) l16 c16 k16
  have F17 := fun_mk (st := s_bar) l17 c17 k17
  have F18 := fun_mk (st := s__law_any) l18 c18 k18
  have F19 := fun_mk (st := s__law_mixed) l19 c19 k19
  have F20 := fun_mk (st := s__law_letters) l20 c20 k20
  have F21 := fun_mk (st := s__law_walk) l21 c21 k21
  have F22 := fun_mk (st := s__law_odd) l22 c22 k22
  have F23 := fun_mk (st := s__law_hanging) l23 c23 k23
  have F24 := fun_mk (st := s__law_is_one) l24 c24 k24
  have F25 := fun_mk (st := s__law_is_right) l25 c25 k25
  have F26 := fun_mk (st := s_law) l26 c26 k26
  refine ⟨PySem.W.fnOf "law" "law" (defArgs s_law) (defBody s_law) (defScope s_law) .none kV26 dc26 pm26 an26 cd26 ct26, fun s v => .of_eq rfl, fun base _ _ => ?_⟩
  have bH := F0.binds (ps := ["script"]) fun _ _ _ _ _ _ us hl => match us, hl with | [_], _ => rfl
  have C__law_draw : Cal l.prog w K mg base 1 "_law_draw" ["hand", "many"] g__law_draw := ⟨f1, _, PySem.W.mg_of X G a1, F1.kp, F1.binds fun _ _ _ _ _ _ us hl => match us, hl with | [_, _], _ => rfl, fun h => f__law_draw F1 Fa⟩
  have C_is_integer := c_is_integer (P := l.prog) (w := w) (base := base) F2 (PySem.W.mg_of X G a2) Fa (len_is_integer) l_is_integer
  have C_is_within := c_is_within (P := l.prog) (w := w) (base := base) F3 (PySem.W.mg_of X G a3) Fa C_is_integer (len_is_within) l_is_within
  have C_is_letters := c_is_letters (P := l.prog) (w := w) (base := base) F4 (PySem.W.mg_of X G a4) Fa (len_is_letters) l_is_letters
  have C_is_word := c_is_word (P := l.prog) (w := w) (base := base) F5 (PySem.W.mg_of X G a5) Fa C_is_letters (len_is_word) l_is_word
  have C_is_book := c_is_book (P := l.prog) (w := w) (base := base) F6 (PySem.W.mg_of X G a6) Fa C_is_word (len_is_book) l_is_book
  have C_check_book := c_check_book (P := l.prog) (w := w) (base := base) F7 (PySem.W.mg_of X G a7) Fa C_is_book (len_check_book) l_check_book
  have C_are_within := c_are_within (P := l.prog) (w := w) (base := base) F8 (PySem.W.mg_of X G a8) Fa C_is_within (len_are_within) l_are_within
  have C_is_order := c_is_order (P := l.prog) (w := w) (base := base) F9 (PySem.W.mg_of X G a9) Fa C_are_within (len_is_order) l_is_order
  have C_does_hook := c_does_hook (P := l.prog) (w := w) (base := base) F10 (PySem.W.mg_of X G a10) Fa (len_does_hook) l_does_hook
  have C_is_chain := c_is_chain (P := l.prog) (w := w) (base := base) F11 (PySem.W.mg_of X G a11) Fa C_check_book C_is_order C_does_hook (len_is_chain) l_is_chain
  have C_surplus_of := c_surplus_of (P := l.prog) (w := w) (base := base) F12 (PySem.W.mg_of X G a12) Fa (len_surplus_of) l_surplus_of
  have C_together_with := c_together_with (P := l.prog) (w := w) (base := base) F13 (PySem.W.mg_of X G a13) Fa (len_together_with) l_together_with
  have C_are_even_enough := c_are_even_enough (P := l.prog) (w := w) (base := base) F14 (PySem.W.mg_of X G a14) Fa C_surplus_of (len_are_even_enough) l_are_even_enough
  have C_can_go_on := c_can_go_on (P := l.prog) (w := w) (base := base) F15 (PySem.W.mg_of X G a15) Fa C_surplus_of C_together_with (len_can_go_on) l_can_go_on
  have C_chain := c_chain (P := l.prog) (w := w) (base := base) F16 (PySem.W.mg_of X G a16) Fa C_check_book C_can_go_on (len_chain) l_chain
  have C_bar := c_bar (P := l.prog) (w := w) (base := base) F17 (PySem.W.mg_of X G a17) Fa C_check_book C_are_even_enough C_surplus_of C_together_with (len_bar) l_bar
  have C__law_any := c__law_any (P := l.prog) (w := w) (base := base) F18 (PySem.W.mg_of X G a18) Fa C__law_draw (len__law_any) l__law_any
  have C__law_mixed := c__law_mixed (P := l.prog) (w := w) (base := base) F19 (PySem.W.mg_of X G a19) Fa C__law_draw (len__law_mixed) l__law_mixed
  have C__law_letters := c__law_letters (P := l.prog) (w := w) (base := base) F20 (PySem.W.mg_of X G a20) Fa C__law_mixed (len__law_letters) l__law_letters
  have C__law_walk := c__law_walk (P := l.prog) (w := w) (base := base) F21 (PySem.W.mg_of X G a21) Fa C__law_any C__law_draw (len__law_walk) l__law_walk
  have C__law_odd := c__law_odd (P := l.prog) (w := w) (base := base) F22 (PySem.W.mg_of X G a22) Fa (len__law_odd) l__law_odd
  have C__law_hanging := c__law_hanging (P := l.prog) (w := w) (base := base) F23 (PySem.W.mg_of X G a23) Fa (len__law_hanging) l__law_hanging
  have C__law_is_one := c__law_is_one (P := l.prog) (w := w) (base := base) F24 (PySem.W.mg_of X G a24) Fa (len__law_is_one) l__law_is_one
  have C__law_is_right := c__law_is_right (P := l.prog) (w := w) (base := base) F25 (PySem.W.mg_of X G a25) Fa C__law_letters C__law_any C__law_walk C__law_draw C__law_odd C__law_hanging C_chain C_bar C_is_chain C__law_is_one (len__law_is_right) l__law_is_right
  exact f_law F26 Fa (f__law_hand F0 Fa (PySem.W.mg_none_of X G z_abs)) F0.kp bH (PySem.W.mg_of X G a0) C_chain C_bar C__law_is_right l_law
end K20
open PySem PySem.W PyProof.Rows
set_option maxHeartbeats 0 in
theorem PySem.Challenge.cw_letterfair_k20_whole_chains_of_up_to_six_holds : PySem.Challenge.rw_letterfair_k20_whole_chains_of_up_to_six.Holds := by
  w_on; o_law; k_head; (case hw => w_witness2)
  k_fill
  refine L2.walk_of (l := PySem.Challenge.rw_letterfair_k20_whole_chains_of_up_to_six) (n := 63) (k := 7) (x := "script") (CX := fun _ => L2.CX0) (sp := fun w => K20.spLaw _) rfl (by decide) rfl ⟨rfl, by decide, by decide⟩ (fun w h Y => PySem.W.kIn_of Y) ?F (fun _ _ a ns hl _ hS => ⟨a, ns, rfl, hS, hl, fun _ => rfl⟩) (fun _ _ _ _ _ h => h.elim)
  case F =>
    intro w mg fa h KX G hmg
    refine' K20.all_mk KX G hmg ?a0 ?l0 ?c0 ?k0 ?a1 ?l1 ?c1 ?k1 ?a2 ?l2 ?c2 ?k2 ?a3 ?l3 ?c3 ?k3 ?a4 ?l4 ?c4 ?k4 ?a5 ?l5 ?c5 ?k5 ?a6 ?l6 ?c6 ?k6 ?a7 ?l7 ?c7 ?k7 ?a8 ?l8 ?c8 ?k8 ?a9 ?l9 ?c9 ?k9 ?a10 ?l10 ?c10 ?k10 ?a11 ?l11 ?c11 ?k11 ?a12 ?l12 ?c12 ?k12 ?a13 ?l13 ?c13 ?k13 ?a14 ?l14 ?c14 ?k14 ?a15 ?l15 ?c15 ?k15 ?a16 ?l16 ?c16 ?k16 ?a17 ?l17 ?c17 ?k17 ?a18 ?l18 ?c18 ?k18 ?a19 ?l19 ?c19 ?k19 ?a20 ?l20 ?c20 ?k20 ?a21 ?l21 ?c21 ?k21 ?a22 ?l22 ?c22 ?k22 ?a23 ?l23 ?c23 ?k23 ?a24 ?l24 ?c24 ?k24 ?a25 ?l25 ?c25 ?k25 ?a26 ?l26 ?c26 ?k26 ?z_all ?z_bool ?z_dict ?z_enumerate ?z_int ?z_isinstance ?z_len ?z_list ?z_range ?z_sorted ?z_str ?z_tuple ?z_zip ?z_abs ?g_LETTERS ?r_LETTERS ?g_MOST_LETTERS ?r_MOST_LETTERS ?g_MOST_WORDS ?r_MOST_WORDS
    (case a0 => k_is); (case l0 => k_is); (case c0 => k_is); (case k0 => k_is); (case a1 => k_is); (case l1 => k_is); (case c1 => k_is); (case k1 => k_is); (case a2 => k_is); (case l2 => k_is); (case c2 => k_is); (case k2 => k_is); (case a3 => k_is); (case l3 => k_is); (case c3 => k_is); (case k3 => k_is); (case a4 => k_is); (case l4 => k_is); (case c4 => k_is); (case k4 => k_is); (case a5 => k_is); (case l5 => k_is); (case c5 => k_is); (case k5 => k_is); (case a6 => k_is); (case l6 => k_is); (case c6 => k_is); (case k6 => k_is); (case a7 => k_is); (case l7 => k_is); (case c7 => k_is); (case k7 => k_is); (case a8 => k_is); (case l8 => k_is); (case c8 => k_is); (case k8 => k_is); (case a9 => k_is); (case l9 => k_is); (case c9 => k_is); (case k9 => k_is); (case a10 => k_is); (case l10 => k_is); (case c10 => k_is); (case k10 => k_is); (case a11 => k_is); (case l11 => k_is); (case c11 => k_is); (case k11 => k_is); (case a12 => k_is); (case l12 => k_is); (case c12 => k_is); (case k12 => k_is); (case a13 => k_is); (case l13 => k_is); (case c13 => k_is); (case k13 => k_is); (case a14 => k_is); (case l14 => k_is); (case c14 => k_is); (case k14 => k_is); (case a15 => k_is); (case l15 => k_is); (case c15 => k_is); (case k15 => k_is); (case a16 => k_is); (case l16 => k_is); (case c16 => k_is); (case k16 => k_is); (case a17 => k_is); (case l17 => k_is); (case c17 => k_is); (case k17 => k_is); (case a18 => k_is); (case l18 => k_is); (case c18 => k_is); (case k18 => k_is); (case a19 => k_is); (case l19 => k_is); (case c19 => k_is); (case k19 => k_is); (case a20 => k_is); (case l20 => k_is); (case c20 => k_is); (case k20 => k_is); (case a21 => k_is); (case l21 => k_is); (case c21 => k_is); (case k21 => k_is); (case a22 => k_is); (case l22 => k_is); (case c22 => k_is); (case k22 => k_is); (case a23 => k_is); (case l23 => k_is); (case c23 => k_is); (case k23 => k_is); (case a24 => k_is); (case l24 => k_is); (case c24 => k_is); (case k24 => k_is); (case a25 => k_is); (case l25 => k_is); (case c25 => k_is); (case k25 => k_is); (case a26 => k_is); (case l26 => k_is); (case c26 => k_is); (case k26 => k_is); (case z_all => k_is); (case z_bool => k_is); (case z_dict => k_is); (case z_enumerate => k_is); (case z_int => k_is); (case z_isinstance => k_is); (case z_len => k_is); (case z_list => k_is); (case z_range => k_is); (case z_sorted => k_is); (case z_str => k_is); (case z_tuple => k_is); (case z_zip => k_is); (case z_abs => k_is); (case g_LETTERS => k_is); (case r_LETTERS => exact ⟨_, rfl⟩); (case g_MOST_LETTERS => k_is); (case r_MOST_LETTERS => exact ⟨_, rfl⟩); (case g_MOST_WORDS => k_is); (case r_MOST_WORDS => exact ⟨_, rfl⟩)

