import PyProof.Rows.All
import Wide.All
import OpenK.AllK
import Wide.FinOn
import HandS.ForMost
import KE.KDictKeyed
import HandS.Deep
import HandS.TupAny
import HandS.Conv
import HandS.Zip
import HandS.IsInst
import HandS.Wide
import KE.SortData
import KE.GoesComp
import KE.GoesMore
import KE.KDictDisplayH
import PySem.Challenge.RW_evenorders_k65_whole_books_parted
import KE.OsSetLaws
import HandS.EndBits
import KE.RegKIsAll
set_option Elab.async false
set_option autoImplicit false
set_option linter.all false
set_option maxRecDepth 100000
/-! L3, part a: data, the frozen part of the heap, frames of data, steps. -/
namespace L3
open PySem PySem.Spec L2

/-- data that never changes: what a value stands for -/
inductive D3 where
  | non | bl (b : Bool) | int (i : Int) | str (x : Str)
  | tup (ds : List D3) | lst (ds : List D3)
  | web (n : Int) (b : D3) (al ll : List D3)

structure Gx where
  K : PySem.W.Frag
  C : Addr
  P : Program
  w : World

def webF (n : Int) (vb : V) (a l : Addr) : List (Str × V) := putF "later" (.ref l) (putF "ahead" (.ref a) (putF "befores" vb (putF "many" (.int n) [])))

mutual
/-- v stands for the data, within the frozen part F -/
def Im (g : Gx) (F : Hp) : D3 → V → Prop
  | .non, v => v = .non
  | .bl b, v => v = .bl b
  | .int i, v => v = .int i
  | .str x, v => v = .str x
  | .tup ds, v => ∃ a vs, v = .ref a ∧ F a = some (.tup vs) ∧ Ims g F ds vs
  | .lst ds, v => ∃ a vs, v = .ref a ∧ SqL g.K F a vs ∧ Ims g F ds vs
  | .web n b al ll, v => ∃ p dx vb a l va vl, v = .ref p ∧ F p = some (.ins g.C dx (webF n vb a l)) ∧ Im g F b vb ∧ SqL g.K F a va ∧ Ims g F al va ∧ SqL g.K F l vl ∧ Ims g F ll vl
def Ims (g : Gx) (F : Hp) : List D3 → List V → Prop
  | [], vs => vs = []
  | d :: ds, vs => ∃ v r, vs = v :: r ∧ Im g F d v ∧ Ims g F ds r
end
section
variable {g : Gx} {F F' H H' : Hp}
theorem _root_.L2.Same.seqT {K : PySem.W.Frag} {H H' : Hp} {a : Addr} {xs : List V} (e : Same H H') (h : SqT K H a xs) : SqT K H' a xs := by
  obtain (h | ⟨o, h⟩) | h := h
  · exact .inl (.inl (e _ _ h))
  · exact Or.inl (Or.inr ⟨o, e _ _ h⟩)
  · exact .inr h
theorem _root_.L2.Same.new {H : Hp} {p : Addr} {o : HO} (h : H p = none) : Same H (upd H p o) := fun a u e => by
  rw [upd_ne (ne_of_none e h)]
  exact e
theorem _root_.L2.Same.mut {H H' : Hp} {p : Addr} {o : HO} (e : Same H H') (h : H p = none) : Same H (upd H' p o) := fun a u ha => by
  rw [upd_ne (ne_of_none ha h)]
  exact e a u ha
mutual
theorem Im.mono (e : Same F F') : ∀ (d : D3) (v : V), Im g F d v → Im g F' d v
  | .non, v, h => by simpa [Im] using h
  | .bl b, v, h => by simpa [Im] using h
  | .int i, v, h => by simpa [Im] using h
  | .str x, v, h => by simpa [Im] using h
  | .tup ds, v, h => by
    unfold Im at h ⊢
    obtain ⟨a, vs, rfl, h1, h2⟩ := h
    exact ⟨a, vs, rfl, e _ _ h1, Ims.mono e ds vs h2⟩
  | .lst ds, v, h => by
    unfold Im at h ⊢
    obtain ⟨a, vs, rfl, h1, h2⟩ := h
    exact ⟨a, vs, rfl, e.seq h1, Ims.mono e ds vs h2⟩
  | .web n b al ll, v, h => by
    unfold Im at h ⊢
    obtain ⟨p, dx, vb, a, l, va, vl, rfl, h1, h2, h3, h4, h5, h6⟩ := h
    exact ⟨p, dx, vb, a, l, va, vl, rfl, e _ _ h1, Im.mono e b vb h2, e.seq h3, Ims.mono e al va h4, e.seq h5, Ims.mono e ll vl h6⟩
theorem Ims.mono (e : Same F F') : ∀ (ds : List D3) (vs : List V), Ims g F ds vs → Ims g F' ds vs
  | [], vs, h => by simpa [Ims] using h
  | d :: ds, vs, h => by
    unfold Ims at h ⊢
    obtain ⟨v, r, rfl, h1, h2⟩ := h
    exact ⟨v, r, rfl, Im.mono e d v h1, Ims.mono e ds r h2⟩
end
theorem Ims.nil : Ims g F [] [] := by unfold Ims; rfl
theorem Ims.cons {d : D3} {v : V} {ds : List D3} {vs : List V} (h : Im g F d v) (hs : Ims g F ds vs) : Ims g F (d :: ds) (v :: vs) := by
  unfold Ims
  exact ⟨v, vs, rfl, h, hs⟩
theorem Ims.length : ∀ {ds : List D3} {vs : List V}, Ims g F ds vs → ds.length = vs.length
  | [], vs, h => by
    unfold Ims at h
    subst h
    rfl
  | d :: ds, vs, h => by
    unfold Ims at h
    obtain ⟨v, r, rfl, h1, h2⟩ := h
    rw [List.length_cons, List.length_cons, Ims.length h2]
theorem Ims.uncons {d : D3} {ds : List D3} {vs : List V} (h : Ims g F (d :: ds) vs) : ∃ v r, vs = v :: r ∧ Im g F d v ∧ Ims g F ds r := by
  unfold Ims at h
  exact h
theorem Ims.append : ∀ {ds es : List D3} {vs us : List V}, Ims g F ds vs → Ims g F es us → Ims g F (ds ++ es) (vs ++ us)
  | [], es, vs, us, h, h' => by
    unfold Ims at h
    subst h
    exact h'
  | d :: ds, es, vs, us, h, h' => by
    obtain ⟨v, r, rfl, h1, h2⟩ := h.uncons
    exact Ims.cons h1 (Ims.append h2 h')
theorem Ims.get : ∀ {ds : List D3} {vs : List V} {i : Nat} {d : D3}, Ims g F ds vs → ds[i]? = some d → ∃ v, vs[i]? = some v ∧ Im g F d v
  | [], _, _, _, _, e => by simp at e
  | d :: ds, vs, 0, d', h, e => by
    obtain ⟨v, r, rfl, h1, h2⟩ := h.uncons
    have : d = d' := by simpa using e
    subst this
    exact ⟨v, rfl, h1⟩
  | d :: ds, vs, i + 1, d', h, e => by
    obtain ⟨v, r, rfl, h1, h2⟩ := h.uncons
    obtain ⟨u, h3, h4⟩ := Ims.get (i := i) h2 (by simpa using e)
    exact ⟨u, by simpa using h3, h4⟩
theorem Ims.get' {ds : List D3} {vs : List V} {i : Nat} {v : V} (h : Ims g F ds vs) (e : vs[i]? = some v) : ∃ d, ds[i]? = some d ∧ Im g F d v := by
  obtain ⟨hi, _⟩ := List.getElem?_eq_some_iff.mp e
  have hl := h.length
  obtain ⟨u, h3, h4⟩ := h.get (i := i) (d := ds[i]) (List.getElem?_eq_getElem (by omega))
  rw [e] at h3
  cases h3
  exact ⟨_, List.getElem?_eq_getElem (by omega), h4⟩
theorem Ims.take : ∀ {ds : List D3} {vs : List V} (n : Nat), Ims g F ds vs → Ims g F (ds.take n) (vs.take n)
  | _, _, 0, _ => by simpa using Ims.nil
  | [], vs, n + 1, h => by
    unfold Ims at h
    subst h
    simpa using Ims.nil
  | d :: ds, vs, n + 1, h => by
    obtain ⟨v, r, rfl, h1, h2⟩ := h.uncons
    exact Ims.cons h1 (Ims.take n h2)
theorem Ims.drop : ∀ {ds : List D3} {vs : List V} (n : Nat), Ims g F ds vs → Ims g F (ds.drop n) (vs.drop n)
  | _, _, 0, h => h
  | [], vs, n + 1, h => by
    unfold Ims at h
    subst h
    simpa using Ims.nil
  | d :: ds, vs, n + 1, h => by
    obtain ⟨v, r, rfl, h1, h2⟩ := h.uncons
    exact Ims.drop n h2
theorem Ims.nil_iff {ds : List D3} {vs : List V} (h : Ims g F ds vs) : vs = [] ↔ ds = [] := by
  have e := h.length
  constructor
  · intro q
    subst q
    exact List.eq_nil_of_length_eq_zero (by simpa using e)
  · intro q
    subst q
    exact List.eq_nil_of_length_eq_zero (by simpa using e.symm)
end

/-! ### as plain data -/
mutual
def pd : D3 → PyData
  | .non => .none
  | .bl b => .bool b
  | .int i => .int i
  | .str x => .str x
  | .tup ds => .tuple (pds ds)
  | .lst ds => .list (pds ds)
  | .web _ _ _ _ => .none
def pds : List D3 → List PyData
  | [] => []
  | d :: ds => pd d :: pds ds
end
mutual
/-- no webs within -/
def D3.ok : D3 → Bool
  | .tup ds => D3.oks ds
  | .lst ds => D3.oks ds
  | .web _ _ _ _ => false
  | .non => true
  | .bl _ => true
  | .int _ => true
  | .str _ => true
def D3.oks : List D3 → Bool
  | [] => true
  | d :: ds => d.ok && D3.oks ds
end
theorem pds_map : ∀ ds : List D3, pds ds = ds.map pd
  | [] => by unfold pds; rfl
  | d :: ds => by unfold pds; rw [pds_map ds]; rfl
section
variable {g : Gx} {F H : Hp}
mutual
theorem Im.dp (e : Same F H) : ∀ (d : D3) (v : V), d.ok = true → Im g F d v → Dp g.K H v (pd d)
  | .non, v, _, h => by
    unfold Im at h; subst h; unfold pd; exact .non
  | .bl b, v, _, h => by
    unfold Im at h; subst h; unfold pd; exact .bl b
  | .int i, v, _, h => by
    unfold Im at h; subst h; unfold pd; exact .int i
  | .str x, v, _, h => by
    unfold Im at h; subst h; unfold pd; exact .str x
  | .tup ds, v, k, h => by
    unfold Im at h
    unfold D3.ok at k
    obtain ⟨a, vs, rfl, h1, h2⟩ := h
    unfold pd
    exact .tup (SqT.of (e _ _ h1)) (Ims.dp e ds vs k h2)
  | .lst ds, v, k, h => by
    unfold Im at h
    unfold D3.ok at k
    obtain ⟨a, vs, rfl, h1, h2⟩ := h
    unfold pd
    exact .lst (e.seq h1) (Ims.dp e ds vs k h2)
  | .web n b al ll, v, k, _ => by
    unfold D3.ok at k
    cases k
theorem Ims.dp (e : Same F H) : ∀ (ds : List D3) (vs : List V), D3.oks ds = true → Ims g F ds vs → DpAll g.K H vs (pds ds)
  | [], vs, _, h => by
    unfold Ims at h; subst h; unfold pds; exact .nil
  | d :: ds, vs, k, h => by
    unfold D3.oks at k
    rw [Bool.and_eq_true] at k
    obtain ⟨v, r, rfl, h1, h2⟩ := h.uncons
    unfold pds
    exact .cons (Im.dp e d v k.1 h1) (Ims.dp e ds r k.2 h2)
end
end

/-! ### the keys of a dict -/
mutual
def nk : D3 → NestedKey
  | .non => .none
  | .bl b => .num (if b then 1 else 0)
  | .int i => .num i
  | .str x => .text x
  | .tup ds => .tup (nks ds)
  | .lst _ => .none
  | .web _ _ _ _ => .none
def nks : List D3 → List NestedKey
  | [] => []
  | d :: ds => nk d :: nks ds
end
theorem nks_map : ∀ ds : List D3, nks ds = ds.map nk
  | [] => by unfold nks; rfl
  | d :: ds => by unfold nks; rw [nks_map ds]; rfl

mutual
/-- may be within a key -/
def D3.hk : D3 → Bool
  | .tup ds => D3.hks ds
  | .lst _ => false
  | .web _ _ _ _ => false
  | .non => true
  | .bl _ => true
  | .int _ => true
  | .str _ => true
def D3.hks : List D3 → Bool
  | [] => true
  | d :: ds => d.hk && D3.hks ds
end
def D3.isTup : D3 → Bool
  | .tup _ => true
  | _ => false
/-- a key: a tuple, not too deep -/
def D3.key (d : D3) : Bool := d.isTup && d.hk && decide ((nk d).depth ≤ 8)

/-- a dict whose keys are tuples at known places, its values all True -/
def dN (P : Program) (w : World) (d : Addr) (xs : List (NestedKey × Addr)) : HO := .ext fun h =>
  (d == sysModules) = false ∧ xs.length ≤ sizeLine ∧ (xs.map (·.1)).Nodup ∧ ∃ o es ep, h.get? d = some o ∧ o.ExactDict ∧ o.data = .dict es ep ∧ es.toList = (xs.map fun x => (x.1, x.2, Value.bool true)).map (entryOfKey (nestedKind P w))

/-! ### what a slot holds -/
structure Tp where
  ns : List Int
  j : Int
  r : Int
  s : Int
  c : Int

inductive R3 where
  | im (d : D3)
  | ls (ds : List D3)
  | dc (ks : List D3)
  | tp (p : Addr) (t : Tp)
  | ob (p : Addr) (fs : List (Str × D3))
def R3.own : R3 → Bool
  | .im _ => false
  | _ => true
abbrev Rho := List (Option R3)

def obF (fs : List (Str × D3)) (vs : List V) : List (Str × V) := ((fs.map (·.1)).zip vs).foldl (fun acc x => putF x.1 x.2 acc) []
def KeysAt (g : Gx) (F : Hp) : List D3 → List (NestedKey × Addr) → Prop
  | [], xs => xs = []
  | k :: ks, xs => ∃ x r, xs = x :: r ∧ x.1 = nk k ∧ k.key = true ∧ Im g F k (.ref x.2) ∧ KeysAt g F ks r
def RepR (g : Gx) (F H : Hp) : R3 → V → Prop
  | .im d, v => Im g F d v
  | .ls ds, v => ∃ p vs, v = .ref p ∧ F p = none ∧ H p = some (.lst vs) ∧ Ims g F ds vs
  | .dc ks, v => ∃ p xs, v = .ref p ∧ F p = none ∧ H p = some (dN g.P g.w p xs) ∧ KeysAt g F ks xs
  | .tp p t, v => ∃ q, v = .ref p ∧ F p = none ∧ H p = some (.lst [.ref q, .int t.j, .int t.r, .int t.s, .int t.c]) ∧ SqL g.K F q (t.ns.map V.int)
  | .ob p fs, v => ∃ dx vs, v = .ref p ∧ F p = none ∧ H p = some (.ins g.C dx (obF fs vs)) ∧ Ims g F (fs.map (·.2)) vs

def Own (ρ : Rho) (σ : St) (p : Addr) : Prop := ∃ (i : Nat) (r : R3), ρ[i]? = some (some r) ∧ r.own = true ∧ σ[i]? = some (some (.ref p))

section
variable (g : Gx)
structure Frm (F : Hp) (ρ : Rho) (σ : St) (H : Hp) : Prop where
  ex : Same F H
  len : ρ.length = σ.length
  rep : ∀ (i : Nat) (r : R3), ρ[i]? = some (some r) → ∃ v, σ[i]? = some (some v) ∧ RepR g F H r v
  sep : ∀ (i j : Nat) (r r' : R3) (p : Addr), i ≠ j → ρ[i]? = some (some r) → r.own = true → σ[i]? = some (some (.ref p)) → ρ[j]? = some (some r') → r'.own = true → σ[j]? = some (some (.ref p)) → False
/-- from one state to another -/
structure Stp (F : Hp) (ρ : Rho) (σ : St) (H : Hp) (F' : Hp) (ρ' : Rho) (σ' : St) (H' : Hp) : Prop where
  fx : Same F F'
  fr : Frm g F' ρ' σ' H'
  keep : ∀ a o, H a = some o → ¬ Own ρ σ a → H' a = some o
  dom : ∀ a, H' a = none → H a = none
  fresh : ∀ a, F a = none → H a ≠ none → ¬ Own ρ σ a → F' a = none
  own : ∀ a, Own ρ' σ' a → H a = none ∨ Own ρ σ a
/-- a result -/
structure Res (F' H' : Hp) (ρ' : Rho) (σ' : St) (r : R3) (v : V) (ρ : Rho) (σ : St) (H : Hp) : Prop where
  rep : RepR g F' H' r v
  own : r.own = true → ∀ p, v = .ref p → ¬ Own ρ' σ' p ∧ (H p = none ∨ Own ρ σ p)
end
section
variable {g : Gx} {F F' F1 F2 H H' H1 H2 : Hp} {ρ ρ' ρ1 ρ2 : Rho} {σ σ' σ1 σ2 : St} {r : R3} {v : V} {p : Addr}
theorem KeysAt.mono (e : Same F F') : ∀ {ks : List D3} {xs : List (NestedKey × Addr)}, KeysAt g F ks xs → KeysAt g F' ks xs
  | [], _, h => h
  | _ :: ks, _, ⟨x, r, e1, e2, e3, h1, h2⟩ => ⟨x, r, e1, e2, e3, Im.mono e _ _ h1, KeysAt.mono e h2⟩
/-- an owned thing stands in H, not in F -/
theorem RepR.there (h : RepR g F H r v) (o : r.own = true) : ∃ p u, v = .ref p ∧ F p = none ∧ H p = some u := by
  cases r with
  | im d => cases o
  | ls ds => obtain ⟨p, vs, e, h1, h2, _⟩ := h; exact ⟨p, _, e, h1, h2⟩
  | dc ks => obtain ⟨p, xs, e, h1, h2, _⟩ := h; exact ⟨p, _, e, h1, h2⟩
  | tp p t => obtain ⟨q, e, h1, h2, _⟩ := h; exact ⟨p, _, e, h1, h2⟩
  | ob p fs => obtain ⟨dx, vs, e, h1, h2, _⟩ := h; exact ⟨p, _, e, h1, h2⟩
/-- it stays -/
theorem RepR.stay (h : RepR g F H r v) (e : Same F F') (k : ∀ p o, r.own = true → v = .ref p → H p = some o → H' p = some o ∧ F' p = none) : RepR g F' H' r v := by
  cases r with
  | im d => exact Im.mono e d v h
  | ls ds =>
    obtain ⟨p, vs, rfl, h1, h2, h3⟩ := h
    obtain ⟨k1, k2⟩ := k p _ rfl rfl h2
    exact ⟨p, vs, rfl, k2, k1, Ims.mono e _ _ h3⟩
  | dc ks =>
    obtain ⟨p, xs, rfl, h1, h2, h3⟩ := h
    obtain ⟨k1, k2⟩ := k p _ rfl rfl h2
    exact ⟨p, xs, rfl, k2, k1, h3.mono e⟩
  | tp p t =>
    obtain ⟨q, rfl, h1, h2, h3⟩ := h
    obtain ⟨k1, k2⟩ := k p _ rfl rfl h2
    exact ⟨q, rfl, k2, k1, e.seq h3⟩
  | ob p fs =>
    obtain ⟨dx, vs, rfl, h1, h2, h3⟩ := h
    obtain ⟨k1, k2⟩ := k p _ rfl rfl h2
    exact ⟨dx, vs, rfl, k2, k1, Ims.mono e _ _ h3⟩
theorem Frm.own_there (fr : Frm g F ρ σ H) (h : Own ρ σ p) : F p = none ∧ ∃ u, H p = some u := by
  obtain ⟨i, r, e1, e2, e3⟩ := h
  obtain ⟨v, e4, e5⟩ := fr.rep i r e1
  rw [e3] at e4
  cases e4
  obtain ⟨q, u, e6, e7, e8⟩ := e5.there e2
  cases e6
  exact ⟨e7, u, e8⟩
theorem Frm.own_ne (fr : Frm g F ρ σ H) (h : H p = none) : ¬ Own ρ σ p := fun o => by
  obtain ⟨_, u, e⟩ := fr.own_there o
  rw [h] at e
  cases e
theorem Frm.no_own (fr : Frm g F ρ σ H) {o : HO} (h : F p = some o) : ¬ Own ρ σ p := fun q => by
  rw [(fr.own_there q).1] at h
  cases h
theorem Stp.refl (fr : Frm g F ρ σ H) : Stp g F ρ σ H F ρ σ H := ⟨Same.refl _, fr, fun _ _ h _ => h, fun _ h => h, fun _ h _ _ => h, fun _ h => .inr h⟩
theorem Stp.trans (a : Stp g F ρ σ H F1 ρ1 σ1 H1) (b : Stp g F1 ρ1 σ1 H1 F2 ρ2 σ2 H2) : Stp g F ρ σ H F2 ρ2 σ2 H2 := by
  have no : ∀ p, H p ≠ none → ¬ Own ρ σ p → ¬ Own ρ1 σ1 p := fun p h1 h2 h3 => (a.own p h3).elim h1 h2
  refine ⟨a.fx.trans b.fx, b.fr, fun p o h n => b.keep p o (a.keep p o h n) (no p (by rw [h]; exact fun q => nomatch q) n), fun p h => a.dom p (b.dom p h), fun p h1 h2 n => ?_, fun p h => ?_⟩
  · exact b.fresh p (a.fresh p h1 h2 n) (fun q => h2 (a.dom p q)) (no p h2 n)
  · rcases b.own p h with q | q
    · exact .inl (a.dom p q)
    · exact a.own p q
theorem Res.trans (a : Stp g F ρ σ H F1 ρ1 σ1 H1) (b : Res g F2 H2 ρ2 σ2 r v ρ1 σ1 H1) : Res g F2 H2 ρ2 σ2 r v ρ σ H :=
  ⟨b.rep, fun o p e => ⟨(b.own o p e).1, (b.own o p e).2.elim (fun q => .inl (a.dom p q)) (fun q => a.own p q)⟩⟩
/-- a result stays through a later step of the frame -/
theorem Res.later (a : Res g F1 H1 ρ1 σ1 r v ρ σ H) (b : Stp g F1 ρ1 σ1 H1 F2 ρ2 σ2 H2) : Res g F2 H2 ρ2 σ2 r v ρ σ H := by
  refine ⟨a.rep.stay b.fx fun p o h1 h2 h3 => ?_, fun o p e => ?_⟩
  · have n := (a.own h1 p h2).1
    obtain ⟨q, u, e1, e2, e3⟩ := a.rep.there h1
    rw [h2] at e1
    cases e1
    exact ⟨b.keep p o h3 n, b.fresh p e2 (by rw [h3]; exact fun q => nomatch q) n⟩
  · obtain ⟨n, q⟩ := a.own o p e
    refine ⟨fun w => ?_, q⟩
    obtain ⟨p', u, e1, e2, e3⟩ := a.rep.there o
    rw [e] at e1
    cases e1
    rcases b.own p w with z | z
    · rw [e3] at z; cases z
    · exact n z
theorem Res.im {d : D3} (h : Im g F' d v) : Res g F' H' ρ' σ' (.im d) v ρ σ H := ⟨h, fun o => nomatch o⟩

/-! ### the kinds of steps -/
/-- the heap grows by a frozen object -/
theorem Stp.newF {o : HO} (fr : Frm g F ρ σ H) (hp : H p = none) : Stp g F ρ σ H (upd F p o) ρ σ (upd H p o) := by
  have fp : F p = none := fr.ex.free hp
  refine ⟨Same.new fp, ⟨fun a u e => ?_, fr.len, fun i r e => ?_, fr.sep⟩, fun a u e _ => ?_, fun a e => ?_, fun a e1 e2 _ => ?_, fun a h => .inr h⟩
  · by_cases ha : a = p
    · subst ha; rw [upd_same] at e ⊢; exact e
    · rw [upd_ne ha] at e ⊢; exact fr.ex a u e
  · obtain ⟨v, e1, e2⟩ := fr.rep i r e
    refine ⟨v, e1, e2.stay (Same.new fp) fun q u h1 h2 h3 => ?_⟩
    have hq : q ≠ p := ne_of_none h3 hp
    rw [upd_ne hq, upd_ne hq]
    obtain ⟨q', u', e3, e4, e5⟩ := e2.there h1
    rw [h2] at e3
    cases e3
    exact ⟨h3, e4⟩
  · rw [upd_ne (ne_of_none e hp)]; exact e
  · by_cases ha : a = p
    · subst ha; exact hp
    · rw [upd_ne ha] at e; exact e
  · have ha : a ≠ p := fun q => e2 (by rw [q]; exact hp)
    rw [upd_ne ha]
    exact e1
/-- the heap grows by an object that may change -/
theorem Stp.newO {o : HO} (fr : Frm g F ρ σ H) (hp : H p = none) : Stp g F ρ σ H F ρ σ (upd H p o) := by
  refine ⟨Same.refl _, ⟨fr.ex.trans (Same.new hp), fr.len, fun i r e => ?_, fr.sep⟩, fun a u e _ => ?_, fun a e => ?_, fun a e1 e2 _ => e1, fun a h => .inr h⟩
  · obtain ⟨v, e1, e2⟩ := fr.rep i r e
    refine ⟨v, e1, e2.stay (Same.refl _) fun q u h1 h2 h3 => ?_⟩
    rw [upd_ne (ne_of_none h3 hp)]
    obtain ⟨q', u', e3, e4, e5⟩ := e2.there h1
    rw [h2] at e3
    cases e3
    exact ⟨h3, e4⟩
  · rw [upd_ne (ne_of_none e hp)]; exact e
  · by_cases ha : a = p
    · subst ha; exact hp
    · rw [upd_ne ha] at e; exact e
theorem Res.newL {ds : List D3} {vs : List V} (fr : Frm g F ρ σ H) (hp : H p = none) (h : Ims g F ds vs) : Res g F (upd H p (.lst vs)) ρ σ (.ls ds) (.ref p) ρ σ H :=
  ⟨⟨p, vs, rfl, fr.ex.free hp, upd_same, h⟩, fun _ q e => by cases e; exact ⟨fr.own_ne hp, .inl hp⟩⟩
theorem Res.newT {ds : List D3} {vs : List V} (hp : F p = none) (h : Ims g F ds vs) : Res g (upd F p (.tup vs)) H' ρ' σ' (.im (.tup ds)) (.ref p) ρ σ H :=
  Res.im (by unfold Im; exact ⟨p, vs, rfl, upd_same, Ims.mono (Same.new hp) _ _ h⟩)
/-- a slot is set to an owned or a plain thing -/
theorem Stp.set {i : Nat} (fr : Frm g F ρ σ H) (s : Stp g F ρ σ H F1 ρ1 σ1 H1) (q : Res g F1 H1 ρ1 σ1 r v ρ σ H) : Stp g F ρ σ H F1 (ρ1.set i (some r)) (σ1.set i (some v)) H1 := by
  have hl := s.fr.len
  have owns : ∀ p, Own (ρ1.set i (some r)) (σ1.set i (some v)) p → Own ρ1 σ1 p ∨ (r.own = true ∧ v = .ref p) := fun p ⟨j, r', e1, e2, e3⟩ => by
    by_cases hj : i = j
    · subst hj
      obtain ⟨hi, _⟩ := List.getElem?_eq_some_iff.mp e1
      rw [List.length_set] at hi
      rw [List.getElem?_set_self hi] at e1
      cases e1
      rw [List.getElem?_set_self (by omega)] at e3
      cases e3
      exact .inr ⟨e2, rfl⟩
    · rw [List.getElem?_set_ne hj] at e1 e3
      exact .inl ⟨j, r', e1, e2, e3⟩
  refine ⟨s.fx, ⟨s.fr.ex, by rw [List.length_set, List.length_set]; exact hl, fun j r' e => ?_, fun j k r1 r2 p hjk e1 o1 s1 e2 o2 s2 => ?_⟩, s.keep, s.dom, s.fresh, fun p h => ?_⟩
  · by_cases hj : i = j
    · subst hj
      obtain ⟨hi, _⟩ := List.getElem?_eq_some_iff.mp e
      rw [List.length_set] at hi
      rw [List.getElem?_set_self hi] at e
      cases e
      exact ⟨v, List.getElem?_set_self (by omega), q.rep⟩
    · rw [List.getElem?_set_ne hj] at e ⊢
      exact s.fr.rep j r' e
  · by_cases hj : i = j
    · subst hj
      obtain ⟨hi, _⟩ := List.getElem?_eq_some_iff.mp e1
      rw [List.length_set] at hi
      rw [List.getElem?_set_self hi] at e1
      cases e1
      rw [List.getElem?_set_self (by omega)] at s1
      cases s1
      rw [List.getElem?_set_ne hjk] at e2 s2
      exact (q.own o1 p rfl).1 ⟨k, r2, e2, o2, s2⟩
    · by_cases hk : i = k
      · subst hk
        obtain ⟨hi, _⟩ := List.getElem?_eq_some_iff.mp e2
        rw [List.length_set] at hi
        rw [List.getElem?_set_self hi] at e2
        cases e2
        rw [List.getElem?_set_self (by omega)] at s2
        cases s2
        rw [List.getElem?_set_ne hj] at e1 s1
        exact (q.own o2 p rfl).1 ⟨j, r1, e1, o1, s1⟩
      · rw [List.getElem?_set_ne hj] at e1 s1
        rw [List.getElem?_set_ne hk] at e2 s2
        exact s.fr.sep j k r1 r2 p hjk e1 o1 s1 e2 o2 s2
  · rcases owns p h with z | ⟨z1, z2⟩
    · exact s.own p z
    · exact (q.own z1 p z2).2
theorem Stp.set1 {i : Nat} (fr : Frm g F ρ σ H) (q : Res g F H ρ σ r v ρ σ H) : Stp g F ρ σ H F (ρ.set i (some r)) (σ.set i (some v)) H := Stp.set fr (Stp.refl fr) q
/-- a slot forgotten -/
theorem Stp.drop {i : Nat} (fr : Frm g F ρ σ H) : Stp g F ρ σ H F (ρ.set i none) σ H := by
  have back : ∀ (j : Nat) (r : R3), (ρ.set i none)[j]? = some (some r) → ρ[j]? = some (some r) := fun j r e => by
    by_cases hj : i = j
    · subst hj
      obtain ⟨hi, _⟩ := List.getElem?_eq_some_iff.mp e
      rw [List.length_set] at hi
      rw [List.getElem?_set_self hi] at e
      cases e
    · rwa [List.getElem?_set_ne hj] at e
  refine ⟨Same.refl _, ⟨fr.ex, by rw [List.length_set]; exact fr.len, fun j r e => fr.rep j r (back j r e), fun j k r1 r2 p hjk e1 o1 s1 e2 o2 s2 => fr.sep j k r1 r2 p hjk (back _ _ e1) o1 s1 (back _ _ e2) o2 s2⟩, fun _ _ h _ => h, fun _ h => h, fun _ h _ _ => h, fun p ⟨j, r', e1, e2, e3⟩ => .inr ⟨j, r', back _ _ e1, e2, e3⟩⟩
/-- a slot moved out -/
theorem Res.moved {i : Nat} (fr : Frm g F ρ σ H) (e : ρ[i]? = some (some r)) (e' : σ[i]? = some (some v)) (h : RepR g F H r v) : Res g F H (ρ.set i none) σ r v ρ σ H := by
  refine ⟨h, fun o p ep => ?_⟩
  subst ep
  refine ⟨fun ⟨j, r', e1, e2, e3⟩ => ?_, .inr ⟨i, r, e, o, e'⟩⟩
  by_cases hj : i = j
  · subst hj
    obtain ⟨hi, _⟩ := List.getElem?_eq_some_iff.mp e1
    rw [List.length_set] at hi
    rw [List.getElem?_set_self hi] at e1
    cases e1
  · rw [List.getElem?_set_ne hj] at e1
    exact fr.sep i j r r' p hj e o e' e1 e2 e3
/-- what a slot owns is written -/
theorem Stp.write {i : Nat} {o : HO} {r' : R3} (fr : Frm g F ρ σ H) (e : ρ[i]? = some (some r)) (ho : r.own = true) (e' : σ[i]? = some (some (.ref p))) (ho' : r'.own = true) (h : RepR g F (upd H p o) r' (.ref p)) :
    Stp g F ρ σ H F (ρ.set i (some r')) σ (upd H p o) := by
  obtain ⟨hF, u, hH⟩ := fr.own_there ⟨i, r, e, ho, e'⟩
  obtain ⟨hi, _⟩ := List.getElem?_eq_some_iff.mp e
  have owns : ∀ q, Own (ρ.set i (some r')) σ q → Own ρ σ q := fun q ⟨j, r2, e1, e2, e3⟩ => by
    by_cases hj : i = j
    · subst hj
      exact ⟨i, r, e, ho, e3⟩
    · rw [List.getElem?_set_ne hj] at e1
      exact ⟨j, r2, e1, e2, e3⟩
  refine ⟨Same.refl _, ⟨fr.ex.mut hF, by rw [List.length_set]; exact fr.len, fun j r2 e2 => ?_, fun j k r1 r2 q hjk e1 o1 s1 e2 o2 s2 => ?_⟩, fun a u' e1 n => ?_, fun a e1 => ?_, fun _ h _ _ => h, fun q h => .inr (owns q h)⟩
  · by_cases hj : i = j
    · subst hj
      rw [List.getElem?_set_self hi] at e2
      cases e2
      exact ⟨_, e', h⟩
    · rw [List.getElem?_set_ne hj] at e2
      obtain ⟨v, e3, e4⟩ := fr.rep j r2 e2
      refine ⟨v, e3, e4.stay (Same.refl _) fun q u' h1 h2 h3 => ?_⟩
      subst h2
      have hq : q ≠ p := fun z => by
        subst z
        exact fr.sep i j r r2 q hj e ho e' e2 h1 e3
      rw [upd_ne hq]
      obtain ⟨q', _, e5, e6, _⟩ := e4.there h1
      cases e5
      exact ⟨h3, e6⟩
  · by_cases hj : i = j
    · subst hj
      rw [List.getElem?_set_ne hjk] at e2
      exact fr.sep i k r r2 q hjk e ho s1 e2 o2 s2
    · by_cases hk : i = k
      · subst hk
        rw [List.getElem?_set_ne hj] at e1
        exact fr.sep j i r1 r q hjk e1 o1 s1 e ho s2
      · rw [List.getElem?_set_ne hj] at e1
        rw [List.getElem?_set_ne hk] at e2
        exact fr.sep j k r1 r2 q hjk e1 o1 s1 e2 o2 s2
  · have ha : a ≠ p := fun z => by
      subst z
      exact n ⟨i, r, e, ho, e'⟩
    rw [upd_ne ha]
    exact e1
  · by_cases ha : a = p
    · subst ha
      rw [upd_same] at e1
      cases e1
    · rwa [upd_ne ha] at e1
/-- a slot's own list is frozen -/
theorem Stp.freeze {i : Nat} {ds : List D3} (fr : Frm g F ρ σ H) (e : ρ[i]? = some (some (.ls ds))) : ∃ F' p, σ[i]? = some (some (.ref p)) ∧ Stp g F ρ σ H F' (ρ.set i (some (.im (.lst ds)))) σ H ∧ Im g F' (.lst ds) (.ref p) := by
  obtain ⟨v, e', h⟩ := fr.rep i _ e
  obtain ⟨p, vs, rfl, h1, h2, h3⟩ := h
  obtain ⟨hi, _⟩ := List.getElem?_eq_some_iff.mp e
  have im : Im g (upd F p (.lst vs)) (.lst ds) (.ref p) := by
    unfold Im
    exact ⟨p, vs, rfl, SqL.of upd_same, Ims.mono (Same.new h1) _ _ h3⟩
  have back : ∀ (j : Nat) (r : R3), r.own = true → (ρ.set i (some (.im (.lst ds))))[j]? = some (some r) → i ≠ j ∧ ρ[j]? = some (some r) := fun j r o e => by
    by_cases hj : i = j
    · subst hj
      rw [List.getElem?_set_self hi] at e
      cases e
      cases o
    · rw [List.getElem?_set_ne hj] at e
      exact ⟨hj, e⟩
  have own0 : Own ρ σ p := ⟨i, _, e, rfl, e'⟩
  refine ⟨upd F p (.lst vs), p, e', ⟨Same.new h1, ⟨fun a u q => ?_, by rw [List.length_set]; exact fr.len, fun j r e2 => ?_, fun j k r1 r2 q hjk e1 o1 s1 e2 o2 s2 => fr.sep j k r1 r2 q hjk (back _ _ o1 e1).2 o1 s1 (back _ _ o2 e2).2 o2 s2⟩, fun _ _ h _ => h, fun _ h => h, fun a e1 e2 n => ?_, fun q ⟨j, r', e1, e2, e3⟩ => .inr ⟨j, r', (back _ _ e2 e1).2, e2, e3⟩⟩, im⟩
  · by_cases ha : a = p
    · subst ha
      rw [upd_same] at q
      rw [h2, ← q]
    · rw [upd_ne ha] at q
      exact fr.ex a u q
  · by_cases hj : i = j
    · subst hj
      rw [List.getElem?_set_self hi] at e2
      cases e2
      exact ⟨_, e', im⟩
    · rw [List.getElem?_set_ne hj] at e2
      obtain ⟨v, e3, e4⟩ := fr.rep j r e2
      refine ⟨v, e3, e4.stay (Same.new h1) fun q u o z1 z2 => ⟨z2, ?_⟩⟩
      subst z1
      have hq : q ≠ p := fun z => by
        subst z
        exact fr.sep i j _ r q hj e rfl e' e2 o e3
      rw [upd_ne hq]
      obtain ⟨q', _, e5, e6, _⟩ := e4.there o
      cases e5
      exact e6
  · have ha : a ≠ p := fun z => n (by rw [z]; exact own0)
    rw [upd_ne ha]
    exact e1
/-- a result's own list is frozen -/
theorem Stp.freezeR {ds : List D3} (s : Stp g F ρ σ H F1 ρ1 σ1 H1) (q : Res g F1 H1 ρ1 σ1 (.ls ds) v ρ σ H) : ∃ F2 p, v = .ref p ∧ Stp g F ρ σ H F2 ρ1 σ1 H1 ∧ Im g F2 (.lst ds) (.ref p) := by
  obtain ⟨p, vs, rfl, h1, h2, h3⟩ := q.rep
  obtain ⟨n1, n2⟩ := q.own rfl p rfl
  have im : Im g (upd F1 p (.lst vs)) (.lst ds) (.ref p) := by
    unfold Im
    exact ⟨p, vs, rfl, SqL.of upd_same, Ims.mono (Same.new h1) _ _ h3⟩
  refine ⟨upd F1 p (.lst vs), p, rfl, ⟨s.fx.trans (Same.new h1), ⟨fun a u q => ?_, s.fr.len, fun j r e2 => ?_, s.fr.sep⟩, s.keep, s.dom, fun a e1 e2 n => ?_, s.own⟩, im⟩
  · by_cases ha : a = p
    · subst ha
      rw [upd_same] at q
      rw [h2, ← q]
    · rw [upd_ne ha] at q
      exact s.fr.ex a u q
  · obtain ⟨v, e3, e4⟩ := s.fr.rep j r e2
    refine ⟨v, e3, e4.stay (Same.new h1) fun q u o z1 z2 => ⟨z2, ?_⟩⟩
    subst z1
    have hq : q ≠ p := fun z => by
      subst z
      exact n1 ⟨j, r, e2, o, e3⟩
    rw [upd_ne hq]
    obtain ⟨q', _, e5, e6, _⟩ := e4.there o
    cases e5
    exact e6
  · have ha : a ≠ p := fun z => by
      subst z
      rcases n2 with z | z
      · exact e2 z
      · exact n z
    rw [upd_ne ha]
    exact s.fresh a e1 e2 n
end
end L3

set_option Elab.async false
set_option autoImplicit false
set_option linter.all false
set_option maxRecDepth 100000
/-! L3, part b: readings over data, and their rules: expressions. -/
namespace L3
open PySem PySem.Spec L2

abbrev TE3 := Rho → (R3 → Rho → Prop) → Prop
abbrev TT3 := Rho → (Bool → Rho → Prop) → Prop
abbrev TA3 := Rho → (List D3 → Rho → Prop) → Prop
structure Ends3 where
  nx : Rho → Prop
  rt : R3 → Rho → Prop
  bk : Rho → Prop := fun _ => False
  ct : Rho → Prop := fun _ => False
abbrev TS3 := Ends3 → Rho → Prop

def low (g : Gx) (t : TE3) : TE := fun σ H Q => ∃ (F : Hp) (ρ : Rho) (Q3 : R3 → Rho → Prop), Frm g F ρ σ H ∧ t ρ Q3 ∧
  ∀ r ρ' F' H' v, Q3 r ρ' → Stp g F ρ σ H F' ρ' σ H' → Res g F' H' ρ' σ r v ρ σ H → Q v H'
def lowT (g : Gx) (t : TT3) : TT := fun σ H Q => ∃ (F : Hp) (ρ : Rho) (Q3 : Bool → Rho → Prop), Frm g F ρ σ H ∧ t ρ Q3 ∧
  ∀ b ρ' F' H', Q3 b ρ' → Stp g F ρ σ H F' ρ' σ H' → Q b H'
def lowA (g : Gx) (t : TA3) : TA := fun σ H Q => ∃ (F : Hp) (ρ : Rho) (Q3 : List D3 → Rho → Prop), Frm g F ρ σ H ∧ t ρ Q3 ∧
  ∀ ds ρ' F' H' vs, Q3 ds ρ' → Stp g F ρ σ H F' ρ' σ H' → Ims g F' ds vs → Q vs H'
abbrev gx (X : Cx) (C : Addr) : Gx := ⟨X.K, C, X.prog, X.w⟩
abbrev XE (X : Cx) (C : Addr) (e : Expr) (t : TE3) : Prop := PE X e (low (gx X C) t)
abbrev XT (X : Cx) (C : Addr) (e : Expr) (t : TT3) : Prop := PT X e (lowT (gx X C) t)
abbrev XA (X : Cx) (C : Addr) (es : List Expr) (t : TA3) : Prop := PA X es (lowA (gx X C) t)
theorem PE.of {X : Cx} {e : Expr} {t t' : TE} (h : PE X e t) (k : ∀ σ H Q, t' σ H Q → t σ H Q) : PE X e t' := ⟨fun pins s σ H Q I w => h.run pins s σ H Q I (k σ H Q w)⟩
theorem PT.of {X : Cx} {e : Expr} {t t' : TT} (h : PT X e t) (k : ∀ σ H Q, t' σ H Q → t σ H Q) : PT X e t' := ⟨fun pins s σ H Q I w => h.run pins s σ H Q I (k σ H Q w)⟩
theorem PA.of {X : Cx} {es : List Expr} {t t' : TA} (h : PA X es t) (k : ∀ σ H Q, t' σ H Q → t σ H Q) : PA X es t' := ⟨fun pos pins s σ H Q I w => h.run pos pins s σ H Q I (k σ H Q w)⟩

/-! ### names, constants -/
def v3 (i : Nat) : TE3 := fun ρ Q => ∃ d, ρ[i]? = some (some (.im d)) ∧ Q (.im d) ρ
def mv3 (i : Nat) : TE3 := fun ρ Q => ∃ r, ρ[i]? = some (some r) ∧ r.own = true ∧ Q r (ρ.set i none)
def fz3 (i : Nat) : TE3 := fun ρ Q => ∃ ds, ρ[i]? = some (some (.ls ds)) ∧ Q (.im (.lst ds)) (ρ.set i (some (.im (.lst ds))))
def c3 (d : D3) : TE3 := fun ρ Q => Q (.im d) ρ
section
variable {g : Gx} {σ : L2.St} {H : Hp} {Q : VK}
theorem low_var {i : Nat} (h : low g (v3 i) σ H Q) : tVar i σ H Q := by
  obtain ⟨F, ρ, Q3, fr, ⟨d, e, q⟩, k⟩ := h
  obtain ⟨v, e', im⟩ := fr.rep i _ e
  exact ⟨v, e', k _ _ _ _ v q (Stp.refl fr) (Res.im im)⟩
theorem low_mv {i : Nat} (h : low g (mv3 i) σ H Q) : tVar i σ H Q := by
  obtain ⟨F, ρ, Q3, fr, ⟨r, e, o, q⟩, k⟩ := h
  obtain ⟨v, e', rp⟩ := fr.rep i _ e
  exact ⟨v, e', k _ _ _ _ v q (Stp.drop fr) (Res.moved fr e e' rp)⟩
theorem low_fz {i : Nat} (h : low g (fz3 i) σ H Q) : tVar i σ H Q := by
  obtain ⟨F, ρ, Q3, fr, ⟨ds, e, q⟩, k⟩ := h
  obtain ⟨F', p, e', st, im⟩ := Stp.freeze fr e
  exact ⟨.ref p, e', k _ _ _ _ _ q st (Res.im im)⟩
theorem low_c {d : D3} {v : V} (hd : ∀ F, Im g F d v) (h : low g (c3 d) σ H Q) : tC v σ H Q := by
  obtain ⟨F, ρ, Q3, fr, q, k⟩ := h
  exact k _ _ _ _ v q (Stp.refl fr) (Res.im (hd F))
end
section
variable {X : Cx} {C : Addr}
theorem x_v (i : Nat) {x : Str} {pos : Pos} (hN : X.N[i]? = some x := by rfl) (hv : Vis X.env.scope x := by first | exact Or.inl rfl | exact Or.inr (Or.inl rfl) | exact Or.inr (Or.inr rfl)) (hd : (x == ("__debug__" : Str)) = false := by decide)
    (hcd : (x == ("__classdict__" : Str)) = false := by decide) : XE X C (.Name x pos) (v3 i) := PE.of (pe_var hN hv hd hcd) fun _ _ _ => low_var
theorem x_mv (i : Nat) {x : Str} {pos : Pos} (hN : X.N[i]? = some x := by rfl) (hv : Vis X.env.scope x := by first | exact Or.inl rfl | exact Or.inr (Or.inl rfl) | exact Or.inr (Or.inr rfl)) (hd : (x == ("__debug__" : Str)) = false := by decide)
    (hcd : (x == ("__classdict__" : Str)) = false := by decide) : XE X C (.Name x pos) (mv3 i) := PE.of (pe_var hN hv hd hcd) fun _ _ _ => low_mv
theorem x_fz (i : Nat) {x : Str} {pos : Pos} (hN : X.N[i]? = some x := by rfl) (hv : Vis X.env.scope x := by first | exact Or.inl rfl | exact Or.inr (Or.inl rfl) | exact Or.inr (Or.inr rfl)) (hd : (x == ("__debug__" : Str)) = false := by decide)
    (hcd : (x == ("__classdict__" : Str)) = false := by decide) : XE X C (.Name x pos) (fz3 i) := PE.of (pe_var hN hv hd hcd) fun _ _ _ => low_fz
theorem im_int {g : Gx} (i : Int) : ∀ F, Im g F (.int i) (.int i) := fun F => by unfold Im; rfl
theorem im_bl {g : Gx} (i : Bool) : ∀ F, Im g F (.bl i) (.bl i) := fun F => by unfold Im; rfl
theorem im_str {g : Gx} (i : Str) : ∀ F, Im g F (.str i) (.str i) := fun F => by unfold Im; rfl
theorem im_non {g : Gx} : ∀ F, Im g F .non .non := fun F => by unfold Im; rfl
theorem x_int {i : Int} {j pos} : XE X C (.Constant (.int i) j pos) (c3 (.int i)) := PE.of pe_int fun _ _ _ => low_c (im_int i)
theorem x_bl {b : Bool} {j pos} : XE X C (.Constant (.bool b) j pos) (c3 (.bl b)) := PE.of pe_bl fun _ _ _ => low_c (im_bl b)
theorem x_non {j pos} : XE X C (.Constant .none j pos) (c3 .non) := PE.of pe_non fun _ _ _ => low_c im_non
theorem x_str {x : Str} {j pos} : XE X C (.Constant (.str x) j pos) (c3 (.str x)) := PE.of pe_str fun _ _ _ => low_c (im_str x)
theorem x_gint {x : Str} {i : Int} {t : Tok} {pos : Pos} (hg : Gl X x) (hm : X.mg x = some (.int i t)) (hd : (x == ("__debug__" : Str)) = false := by decide) : XE X C (.Name x pos) (c3 (.int i)) :=
  PE.of (pe_glob (v := .int i) hg hm ⟨t, rfl⟩ hd) fun _ _ _ => low_c (im_int i)
end

/-! ### argument lists, tuples, lists -/
def nil3 : TA3 := fun ρ Q => Q [] ρ
def cons3 (te : TE3) (ta : TA3) : TA3 := fun ρ Q => te ρ fun r ρ1 => ∃ d, r = .im d ∧ ta ρ1 fun ds ρ2 => Q (d :: ds) ρ2
def tup3 (t : TA3) : TE3 := fun ρ Q => t ρ fun ds ρ1 => ds.length ≤ 100000 ∧ Q (.im (.tup ds)) ρ1
def lst3 (t : TA3) : TE3 := fun ρ Q => t ρ fun ds ρ1 => ds.length ≤ 100000 ∧ Q (.ls ds) ρ1
theorem line_of {n : Nat} (h : n ≤ 100000) : n ≤ sizeLine := Nat.le_trans h (by decide)
theorem line_lt {n : Nat} (h : n < 100000) : n < sizeLine := Nat.lt_of_lt_of_le h (by decide)
section
variable {g : Gx} {σ : L2.St} {H : Hp} {Q : VK}
theorem low_nil {Q : List V → Hp → Prop} (h : lowA g nil3 σ H Q) : tNil σ H Q := by
  obtain ⟨F, ρ, Q3, fr, q, k⟩ := h
  exact k _ _ _ _ _ q (Stp.refl fr) Ims.nil
theorem low_cons {te : TE3} {ta : TA3} {Q : List V → Hp → Prop} (h : lowA g (cons3 te ta) σ H Q) : tCons (low g te) (lowA g ta) σ H Q := by
  obtain ⟨F, ρ, Q3, fr, q, k⟩ := h
  refine ⟨F, ρ, _, fr, q, fun r ρ1 F1 H1 v h1 s1 r1 => ?_⟩
  obtain ⟨d, rfl, h1⟩ := h1
  refine ⟨F1, ρ1, _, s1.fr, h1, fun ds ρ2 F2 H2 vs h2 s2 r2 => ?_⟩
  exact k _ _ _ _ _ h2 (s1.trans s2) (Ims.cons (Im.mono s2.fx _ _ r1.rep) r2)
theorem low_tup {ta : TA3} (h : low g (tup3 ta) σ H Q) : tTup (lowA g ta) σ H Q := by
  obtain ⟨F, ρ, Q3, fr, q, k⟩ := h
  refine ⟨F, ρ, _, fr, q, fun ds ρ1 F1 H1 vs h1 s1 r1 => ?_⟩
  obtain ⟨hl, h1⟩ := h1
  refine ⟨line_of (by rw [← r1.length]; exact hl), fun p hp => ?_⟩
  exact k _ _ _ _ _ h1 (s1.trans (Stp.newF s1.fr hp)) (Res.newT (s1.fr.ex.free hp) r1)
theorem low_lst {ta : TA3} (h : low g (lst3 ta) σ H Q) : tLst (lowA g ta) σ H Q := by
  obtain ⟨F, ρ, Q3, fr, q, k⟩ := h
  refine ⟨F, ρ, _, fr, q, fun ds ρ1 F1 H1 vs h1 s1 r1 => ?_⟩
  obtain ⟨hl, h1⟩ := h1
  refine ⟨line_of (by rw [← r1.length]; exact hl), fun p hp => ?_⟩
  exact k _ _ _ _ _ h1 (s1.trans (Stp.newO s1.fr hp)) ((Res.newL s1.fr hp r1).trans s1)
end
section
variable {X : Cx} {C : Addr} {e : Expr} {es : List Expr} {te : TE3} {ta : TA3} {pos : Pos}
theorem xa_nil : XA X C [] nil3 := PA.of pa_nil fun _ _ _ => low_nil
theorem xa_cons (h : XE X C e te) (hr : XA X C es ta) (hs : starEach (e :: es) X.env = (false, eval e X.env) :: starEach es X.env := by rfl) : XA X C (e :: es) (cons3 te ta) := PA.of (pa_cons h hr hs) fun _ _ _ => low_cons
theorem x_tup {k} (h : XA X C es ta) : XE X C (.Tuple es k pos) (tup3 ta) := PE.of (pe_tup h) fun _ _ _ => low_tup
theorem x_lst (h : XA X C es ta) : XE X C (.List es pos) (lst3 ta) := PE.of (pe_lst h) fun _ _ _ => low_lst
end

/-! ### operators -/
/-- an operator on values does what op3 says of the data -/
def OpL (g : Gx) (r : R2) (op3 : R3 → R3 → (R3 → Prop) → Prop) : Prop :=
  ∀ (F : Hp) (ρ : Rho) (σ : L2.St) (H : Hp) (a b : R3) (x y : V) (Q3 : R3 → Prop) (Q : VK), Frm g F ρ σ H → RepR g F H a x → RepR g F H b y → op3 a b Q3 →
    (∀ c F' H' v, Q3 c → Stp g F ρ σ H F' ρ σ H' → Res g F' H' ρ σ c v ρ σ H → Q v H') → r x y H Q
def op2 (op3 : R3 → R3 → (R3 → Prop) → Prop) (ta tb : TE3) : TE3 := fun ρ Q => ta ρ fun a ρ1 => tb ρ1 fun b ρ2 => op3 a b fun c => Q c ρ2
/-- the right operand a name whose thing is only looked at -/
def op2B (op3 : R3 → R3 → (R3 → Prop) → Prop) (ta : TE3) (i : Nat) : TE3 := fun ρ Q => ta ρ fun a ρ1 => ∃ b, ρ1[i]? = some (some b) ∧ op3 a b fun c => Q c ρ1
section
variable {g : Gx} {σ : L2.St} {H : Hp} {Q : VK} {r : R2} {op3 : R3 → R3 → (R3 → Prop) → Prop} {ta tb : TE3}
theorem low_op (ho : OpL g r op3) (h : low g (op2 op3 ta tb) σ H Q) : tOp r (low g ta) (low g tb) σ H Q := by
  obtain ⟨F, ρ, Q3, fr, q, k⟩ := h
  refine ⟨F, ρ, _, fr, q, fun a ρ1 F1 H1 x h1 s1 r1 => ⟨F1, ρ1, _, s1.fr, h1, fun b ρ2 F2 H2 y h2 s2 r2 => ?_⟩⟩
  exact ho F2 ρ2 σ H2 a b x y _ Q s2.fr (r1.later s2).rep r2.rep h2 fun c F' H' v hc s3 r3 => k c ρ2 F' H' v hc ((s1.trans s2).trans s3) (r3.trans (s1.trans s2))
theorem low_opB {i : Nat} (ho : OpL g r op3) (h : low g (op2B op3 ta i) σ H Q) : tOp r (low g ta) (tVar i) σ H Q := by
  obtain ⟨F, ρ, Q3, fr, q, k⟩ := h
  refine ⟨F, ρ, _, fr, q, fun a ρ1 F1 H1 x h1 s1 r1 => ?_⟩
  obtain ⟨b, e, h2⟩ := h1
  obtain ⟨y, e', rb⟩ := s1.fr.rep i b e
  refine ⟨y, e', ?_⟩
  exact ho F1 ρ1 σ H1 a b x y _ Q s1.fr r1.rep rb h2 fun c F' H' v hc s3 r3 => k c ρ1 F' H' v hc (s1.trans s3) (r3.trans s1)
theorem OpL.or {r1 r2 : R2} {o1 o2 : R3 → R3 → (R3 → Prop) → Prop} (h1 : OpL g r1 o1) (h2 : OpL g r2 o2) : OpL g (fun x y H Q => r1 x y H Q ∨ r2 x y H Q) (fun a b Q => o1 a b Q ∨ o2 a b Q) :=
  fun F ρ σ H a b x y Q3 Q fr ra rb ho k => ho.elim (fun z => .inl (h1 F ρ σ H a b x y Q3 Q fr ra rb z k)) (fun z => .inr (h2 F ρ σ H a b x y Q3 Q fr ra rb z k))
theorem OpL.imp {o1 o2 : R3 → R3 → (R3 → Prop) → Prop} (h : OpL g r o1) (k : ∀ a b Q, o2 a b Q → o1 a b Q) : OpL g r o2 := fun F ρ σ H a b x y Q3 Q fr ra rb ho kk => h F ρ σ H a b x y Q3 Q fr ra rb (k a b Q3 ho) kk
end
section
variable {X : Cx} {C : Addr} {a b : Expr} {ta tb : TE3} {pos : Pos} {r : R2} {op3 : R3 → R3 → (R3 → Prop) → Prop}
theorem x_op {op : Operator} (ho : OpR X (binaryOp op) r) (hl : OpL (gx X C) r op3) (ha : XE X C a ta) (hb : XE X C b tb) : XE X C (.BinOp a op b pos) (op2 op3 ta tb) := PE.of (pe_op ho ha hb) fun _ _ _ => low_op hl
theorem x_cmp {op : CmpOp} (ho : OpR X (compareOp op) r) (hl : OpL (gx X C) r op3) (ha : XE X C a ta) (hb : XE X C b tb) (hm : behindInMarks op b = false) : XE X C (.Compare a [op] [b] pos) (op2 op3 ta tb) :=
  PE.of (pe_cmpR ho ha hb hm) fun _ _ _ => low_op hl
theorem x_cmpB {op : CmpOp} {i : Nat} (ho : OpR X (compareOp op) r) (hl : OpL (gx X C) r op3) (ha : XE X C a ta) (hb : PE X b (tVar i)) (hm : behindInMarks op b = false) : XE X C (.Compare a [op] [b] pos) (op2B op3 ta i) :=
  PE.of (pe_cmpR ho ha hb hm) fun _ _ _ => low_opB hl
end
/-! ### a test -/
def tst3 (t : TE3) : TT3 := fun ρ Q => t ρ fun r ρ1 => ∃ k, r = .im (.bl k) ∧ Q k ρ1
section
variable {g : Gx} {σ : L2.St} {H : Hp}
theorem low_tst {t : TE3} {Q : Bool → Hp → Prop} (h : lowT g (tst3 t) σ H Q) : tTest (low g t) σ H Q := by
  obtain ⟨F, ρ, Q3, fr, q, k⟩ := h
  refine ⟨F, ρ, _, fr, q, fun a ρ1 F1 H1 x h1 s1 r1 => ?_⟩
  obtain ⟨b, rfl, h1⟩ := h1
  have e : x = .bl b := by
    have := r1.rep
    unfold RepR Im at this
    exact this
  exact ⟨b, e, k _ _ _ _ h1 s1⟩
theorem low_tstT {t : TE} {t' : TE3} {Q : Bool → Hp → Prop} (hl : ∀ Q, low g t' σ H Q → t σ H Q) (h : lowT g (tst3 t') σ H Q) : tTest t σ H Q := by
  have := low_tst h
  exact hl _ this
def and3 (t u : TT3) : TT3 := fun ρ Q => t ρ fun b ρ1 => if b = true then u ρ1 Q else Q false ρ1
def or3 (t u : TT3) : TT3 := fun ρ Q => t ρ fun b ρ1 => if b = true then Q true ρ1 else u ρ1 Q
def not3 (t : TT3) : TT3 := fun ρ Q => t ρ fun b ρ1 => Q (!b) ρ1
theorem low_and {t u : TT3} {Q : Bool → Hp → Prop} (h : lowT g (and3 t u) σ H Q) : tAnd (lowT g t) (lowT g u) σ H Q := by
  obtain ⟨F, ρ, Q3, fr, q, k⟩ := h
  refine ⟨F, ρ, _, fr, q, fun b ρ1 F1 H1 h1 s1 => ?_⟩
  cases b with
  | true => exact ⟨F1, ρ1, _, s1.fr, h1, fun c ρ2 F2 H2 h2 s2 => k _ _ _ _ h2 (s1.trans s2)⟩
  | false => exact k _ _ _ _ h1 s1
theorem low_or {t u : TT3} {Q : Bool → Hp → Prop} (h : lowT g (or3 t u) σ H Q) : tOr (lowT g t) (lowT g u) σ H Q := by
  obtain ⟨F, ρ, Q3, fr, q, k⟩ := h
  refine ⟨F, ρ, _, fr, q, fun b ρ1 F1 H1 h1 s1 => ?_⟩
  cases b with
  | false => exact ⟨F1, ρ1, _, s1.fr, h1, fun c ρ2 F2 H2 h2 s2 => k _ _ _ _ h2 (s1.trans s2)⟩
  | true => exact k _ _ _ _ h1 s1
theorem low_not {t : TT3} {Q : Bool → Hp → Prop} (h : lowT g (not3 t) σ H Q) : tNot (lowT g t) σ H Q := by
  obtain ⟨F, ρ, Q3, fr, q, k⟩ := h
  exact ⟨F, ρ, _, fr, q, fun b ρ1 F1 H1 h1 s1 => k _ _ _ _ h1 s1⟩
/-- as values -/
def andV (t u : TE3) : TE3 := fun ρ Q => t ρ fun r ρ1 => ∃ c, r = .im (.bl c) ∧ if c = true then u ρ1 Q else Q (.im (.bl false)) ρ1
def orV (t u : TE3) : TE3 := fun ρ Q => t ρ fun r ρ1 => ∃ c, r = .im (.bl c) ∧ if c = true then Q (.im (.bl true)) ρ1 else u ρ1 Q
def notV (t : TE3) : TE3 := fun ρ Q => t ρ fun r ρ1 => ∃ c, r = .im (.bl c) ∧ Q (.im (.bl (!c))) ρ1
def if3 (t : TT3) (a b : TE3) : TE3 := fun ρ Q => t ρ fun c ρ1 => if c = true then a ρ1 Q else b ρ1 Q
theorem im_bl_eq {F H : Hp} {c : Bool} {x : V} (h : RepR g F H (.im (.bl c)) x) : x = .bl c := by
  unfold RepR Im at h
  exact h
theorem low_andV {t u : TE3} {Q : VK} (h : low g (andV t u) σ H Q) : tAndV (low g t) (low g u) σ H Q := by
  obtain ⟨F, ρ, Q3, fr, q, k⟩ := h
  refine ⟨F, ρ, _, fr, q, fun a ρ1 F1 H1 x h1 s1 r1 => ?_⟩
  obtain ⟨c, rfl, h1⟩ := h1
  refine ⟨c, im_bl_eq r1.rep, ?_⟩
  cases c with
  | true => exact ⟨F1, ρ1, _, s1.fr, h1, fun r ρ2 F2 H2 v h2 s2 r2 => k _ _ _ _ _ h2 (s1.trans s2) (r2.trans s1)⟩
  | false => exact k _ _ _ _ _ h1 s1 (Res.im (im_bl _ _))
theorem low_orV {t u : TE3} {Q : VK} (h : low g (orV t u) σ H Q) : tOrV (low g t) (low g u) σ H Q := by
  obtain ⟨F, ρ, Q3, fr, q, k⟩ := h
  refine ⟨F, ρ, _, fr, q, fun a ρ1 F1 H1 x h1 s1 r1 => ?_⟩
  obtain ⟨c, rfl, h1⟩ := h1
  refine ⟨c, im_bl_eq r1.rep, ?_⟩
  cases c with
  | false => exact ⟨F1, ρ1, _, s1.fr, h1, fun r ρ2 F2 H2 v h2 s2 r2 => k _ _ _ _ _ h2 (s1.trans s2) (r2.trans s1)⟩
  | true => exact k _ _ _ _ _ h1 s1 (Res.im (im_bl _ _))
theorem low_notV {t : TE3} {Q : VK} (h : low g (notV t) σ H Q) : tNotV (low g t) σ H Q := by
  obtain ⟨F, ρ, Q3, fr, q, k⟩ := h
  refine ⟨F, ρ, _, fr, q, fun a ρ1 F1 H1 x h1 s1 r1 => ?_⟩
  obtain ⟨c, rfl, h1⟩ := h1
  exact ⟨c, im_bl_eq r1.rep, k _ _ _ _ _ h1 s1 (Res.im (im_bl _ _))⟩
theorem low_if {t : TT3} {a b : TE3} {Q : VK} (h : low g (if3 t a b) σ H Q) : tIf (lowT g t) (low g a) (low g b) σ H Q := by
  obtain ⟨F, ρ, Q3, fr, q, k⟩ := h
  refine ⟨F, ρ, _, fr, q, fun c ρ1 F1 H1 h1 s1 => ?_⟩
  cases c with
  | true => exact ⟨F1, ρ1, _, s1.fr, h1, fun r ρ2 F2 H2 v h2 s2 r2 => k _ _ _ _ _ h2 (s1.trans s2) (r2.trans s1)⟩
  | false => exact ⟨F1, ρ1, _, s1.fr, h1, fun r ρ2 F2 H2 v h2 s2 r2 => k _ _ _ _ _ h2 (s1.trans s2) (r2.trans s1)⟩
end
/-- a test whatever its whole is -/
abbrev XW (X : Cx) (C : Addr) (e : Expr) (t : TT3) : Prop := PW X e (lowT (gx X C) t)
theorem PW.of {X : Cx} {e : Expr} {t t' : TT} (h : PW X e t) (k : ∀ σ H Q, t' σ H Q → t σ H Q) : PW X e t' := ⟨fun wh pins s σ H Q I w => h.run wh pins s σ H Q I (k σ H Q w)⟩
section
variable {X : Cx} {C : Addr} {a b e : Expr} {rest : List Expr} {ta tb : TE3} {t u : TT3} {pos : Pos} {r : R2} {op3 : R3 → R3 → (R3 → Prop) → Prop}
theorem xt_cmp {op : CmpOp} (ho : OpR X (compareOp op) r) (hl : OpL (gx X C) r op3) (ha : XE X C a ta) (hb : XE X C b tb) (hm : behindInMarks op b = false) : XT X C (.Compare a [op] [b] pos) (tst3 (op2 op3 ta tb)) :=
  PT.of (pt_cmpR ho ha hb hm) fun _ _ _ => low_tstT fun _ => low_op hl
theorem xt_cmpB {op : CmpOp} {i : Nat} (ho : OpR X (compareOp op) r) (hl : OpL (gx X C) r op3) (ha : XE X C a ta) (hb : PE X b (tVar i)) (hm : behindInMarks op b = false) : XT X C (.Compare a [op] [b] pos) (tst3 (op2B op3 ta i)) :=
  PT.of (pt_cmpR ho ha hb hm) fun _ _ _ => low_tstT fun _ => low_opB hl
theorem xt_val {te : TE3} (h : XE X C e te) (he : ∀ whole, isTrue e X.env whole = (do let v ← whole; standAt e.pos; holding [v] (truthy v)) := by intro _; rfl) : XT X C e (tst3 te) :=
  PT.of (pt_val h he) fun _ _ _ h => low_tst h
theorem xw_and1 (ha : XT X C a t) : XW X C (.BoolOp .And [a] pos) t := pw_and1 ha
theorem xw_or1 (ha : XT X C a t) : XW X C (.BoolOp .Or [a] pos) t := pw_or1 ha
theorem xw_and (ha : XT X C a t) (hb : XW X C (.BoolOp .And (b :: rest) pos) u) : XW X C (.BoolOp .And (a :: b :: rest) pos) (and3 t u) := PW.of (pw_and ha hb) fun _ _ _ => low_and
theorem xw_or (ha : XT X C a t) (hb : XW X C (.BoolOp .Or (b :: rest) pos) u) : XW X C (.BoolOp .Or (a :: b :: rest) pos) (or3 t u) := PW.of (pw_or ha hb) fun _ _ _ => low_or
theorem XW.pt (h : XW X C e t) : XT X C e t := ⟨h.run _⟩
theorem xt_not (ha : XT X C a t) : XT X C (.UnaryOp .Not a pos) (not3 t) := PT.of (pt_not ha) fun _ _ _ => low_not
theorem x_one {op} {te : TE3} (h : XE X C a te) : XE X C (.BoolOp op [a] pos) te := pe_one h
theorem x_and (ha : XE X C a ta) (hb : XE X C (.BoolOp .And (b :: rest) pos) tb) : XE X C (.BoolOp .And (a :: b :: rest) pos) (andV ta tb) := PE.of (pe_and ha hb) fun _ _ _ => low_andV
theorem x_or (ha : XE X C a ta) (hb : XE X C (.BoolOp .Or (b :: rest) pos) tb) : XE X C (.BoolOp .Or (a :: b :: rest) pos) (orV ta tb) := PE.of (pe_or ha hb) fun _ _ _ => low_orV
theorem x_not (ha : XE X C a ta) : XE X C (.UnaryOp .Not a pos) (notV ta) := PE.of (pe_not ha) fun _ _ _ => low_notV
theorem x_if {c : Expr} (hc : XT X C c t) (ha : XE X C a ta) (hb : XE X C b tb) : XE X C (.IfExp c a b pos) (if3 t ta tb) := PE.of (pe_ifExp hc ha hb) fun _ _ _ => low_if
end
end L3

set_option Elab.async false
set_option autoImplicit false
set_option linter.all false
set_option maxRecDepth 100000
/-! L3, part c: the operators and built-ins over data. -/
namespace L3
open PySem PySem.Spec L2

section
variable {g : Gx} {F H : Hp} {x y : V} {i j : Int} {ds : List D3}
theorem rep_int (h : RepR g F H (.im (.int i)) x) : x = .int i := by
  unfold RepR Im at h
  exact h
theorem rep_tup (h : RepR g F H (.im (.tup ds)) x) : ∃ a vs, x = .ref a ∧ F a = some (.tup vs) ∧ Ims g F ds vs := by
  unfold RepR Im at h
  exact h
theorem rep_lst (h : RepR g F H (.im (.lst ds)) x) : ∃ a vs, x = .ref a ∧ SqL g.K F a vs ∧ Ims g F ds vs := by
  unfold RepR Im at h
  exact h
end
/-! ### whole numbers -/
def int2 (C : Int → Int → Prop) (f : Int → Int → D3) (a b : R3) (Q : R3 → Prop) : Prop :=
  match a, b with
  | .im (.int i), .im (.int j) => C i j ∧ Q (.im (f i j))
  | _, _ => False
theorem opl_int {g : Gx} {C : Int → Int → Prop} {h : Int → Int → V} {f : Int → Int → D3} (hf : ∀ i j F, Im g F (f i j) (h i j)) : OpL g (rI C h) (int2 C f) := by
  intro F ρ σ H a b x y Q3 Q fr ra rb ho k
  unfold int2 at ho
  split at ho
  · rename_i i j
    obtain ⟨hc, q⟩ := ho
    exact ⟨i, j, rep_int ra, rep_int rb, hc, k _ F H _ q (Stp.refl fr) (Res.im (hf i j F))⟩
  · exact ho.elim
def int20 (f : Int → Int → D3) (a b : R3) (Q : R3 → Prop) : Prop :=
  match a, b with
  | .im (.int i), .im (.int j) => Q (.im (f i j))
  | _, _ => False
theorem opl_int0 {g : Gx} {h : Int → Int → V} {f : Int → Int → D3} (hf : ∀ i j F, Im g F (f i j) (h i j)) : OpL g (rI0 h) (int20 f) := by
  intro F ρ σ H a b x y Q3 Q fr ra rb ho k
  unfold int20 at ho
  split at ho
  · rename_i i j
    exact ⟨i, j, rep_int ra, rep_int rb, k _ F H _ ho (Stp.refl fr) (Res.im (hf i j F))⟩
  · exact ho.elim
def add3 (a b : R3) (Q : R3 → Prop) : Prop :=
  match a, b with
  | .im (.int i), .im (.int j) => Q (.im (.int (i + j)))
  | .im (.tup ds), .im (.tup es) => ds.length + es.length ≤ 100000 ∧ Q (.im (.tup (ds ++ es)))
  | .ls ds, .ls es => ds.length + es.length ≤ 100000 ∧ Q (.ls (ds ++ es))
  | _, _ => False
theorem op_add3 {X : Cx} : OpR X (binaryOp .Add) (fun x y H Q => rI0 (fun i j => .int (i + j)) x y H Q ∨ (rCatA X.K x y H Q ∨ rCat x y H Q)) := op_add.or (op_catA.or op_cat)
theorem opl_add {g : Gx} : OpL g (fun x y H Q => rI0 (fun i j => .int (i + j)) x y H Q ∨ (rCatA g.K x y H Q ∨ rCat x y H Q)) add3 := by
  intro F ρ σ H a b x y Q3 Q fr ra rb ho k
  unfold add3 at ho
  split at ho
  · rename_i i j
    exact .inl ⟨i, j, rep_int ra, rep_int rb, k _ F H _ ho (Stp.refl fr) (Res.im (im_int _ F))⟩
  · rename_i ds es
    obtain ⟨hz, q⟩ := ho
    obtain ⟨a1, vs, rfl, h1, h2⟩ := rep_tup ra
    obtain ⟨b1, us, rfl, h3, h4⟩ := rep_tup rb
    have l1 := h2.length
    have l2 := h4.length
    refine .inr (.inl ⟨a1, b1, vs, us, rfl, rfl, SqT.of (fr.ex _ _ h1), SqT.of (fr.ex _ _ h3), line_of (by omega), fun e => ?_, fun e e' => ?_, fun e e' p hp => ?_⟩)
    · have : ds = [] := h2.nil_iff.mp e
      subst this
      exact k _ F H _ q (Stp.refl fr) (Res.im (by unfold Im; exact ⟨b1, us, rfl, h3, h4⟩))
    · have : es = [] := h4.nil_iff.mp e'
      subst this
      rw [List.append_nil] at q
      exact k _ F H _ q (Stp.refl fr) (Res.im (by unfold Im; exact ⟨a1, vs, rfl, h1, h2⟩))
    · exact k _ _ _ _ q (Stp.newF fr hp) (Res.newT (fr.ex.free hp) (h2.append h4))
  · rename_i ds es
    obtain ⟨hz, q⟩ := ho
    obtain ⟨a1, vs, rfl, f1, h1, h2⟩ := ra
    obtain ⟨b1, us, rfl, f2, h3, h4⟩ := rb
    have l1 := h2.length
    have l2 := h4.length
    exact .inr (.inr ⟨a1, b1, vs, us, rfl, rfl, h1, h3, line_of (by omega), fun p hp => k _ _ _ _ q (Stp.newO fr hp) (Res.newL fr hp (h2.append h4))⟩)
  · exact ho.elim
section
variable {X : Cx} {C : Addr} {a b : Expr} {ta tb : TE3} {pos : Pos}
theorem x_add (ha : XE X C a ta) (hb : XE X C b tb) : XE X C (.BinOp a .Add b pos) (op2 add3 ta tb) := x_op op_add3 opl_add ha hb
theorem x_sub (ha : XE X C a ta) (hb : XE X C b tb) : XE X C (.BinOp a .Sub b pos) (op2 (int20 fun i j => .int (i - j)) ta tb) := x_op op_sub (opl_int0 fun _ _ => im_int _) ha hb
theorem x_mul (ha : XE X C a ta) (hb : XE X C b tb) : XE X C (.BinOp a .Mult b pos) (op2 (int2 CMul fun i j => .int (i * j)) ta tb) := x_op op_mul (opl_int fun _ _ => im_int _) ha hb
theorem x_fdiv (ha : XE X C a ta) (hb : XE X C b tb) : XE X C (.BinOp a .FloorDiv b pos) (op2 (int2 CDivW fun i j => .int (i / j)) ta tb) := x_op op_fdivW (opl_int fun _ _ => im_int _) ha hb
theorem x_mod (ha : XE X C a ta) (hb : XE X C b tb) : XE X C (.BinOp a .Mod b pos) (op2 (int2 (fun _ j => 0 < j) fun i j => .int (i % j)) ta tb) := x_op op_mod (opl_int fun _ _ => im_int _) ha hb
theorem x_pow (ha : XE X C a ta) (hb : XE X C b tb) : XE X C (.BinOp a .Pow b pos) (op2 (int2 CPow fun i j => .int (i ^ j.toNat)) ta tb) := x_op op_pow (opl_int fun _ _ => im_int _) ha hb
abbrev lt3 := int20 fun i j => .bl (decide (i < j))
abbrev le3 := int20 fun i j => .bl (decide (i ≤ j))
abbrev gt3 := int20 fun i j => .bl (decide (j < i))
abbrev ge3 := int20 fun i j => .bl (decide (j ≤ i))
theorem opl_lt {g : Gx} : OpL g (rI0 fun i j => .bl (decide (i < j))) lt3 := opl_int0 fun _ _ => im_bl _
theorem opl_le {g : Gx} : OpL g (rI0 fun i j => .bl (decide (i ≤ j))) le3 := opl_int0 fun _ _ => im_bl _
theorem opl_gt {g : Gx} : OpL g (rI0 fun i j => .bl (decide (j < i))) gt3 := opl_int0 fun _ _ => im_bl _
theorem opl_ge {g : Gx} : OpL g (rI0 fun i j => .bl (decide (j ≤ i))) ge3 := opl_int0 fun _ _ => im_bl _
theorem x_lt (ha : XE X C a ta) (hb : XE X C b tb) : XE X C (.Compare a [.Lt] [b] pos) (op2 lt3 ta tb) := x_cmp op_lt opl_lt ha hb (nomark _)
theorem x_le (ha : XE X C a ta) (hb : XE X C b tb) : XE X C (.Compare a [.LtE] [b] pos) (op2 le3 ta tb) := x_cmp op_le opl_le ha hb (nomark _)
theorem x_gt (ha : XE X C a ta) (hb : XE X C b tb) : XE X C (.Compare a [.Gt] [b] pos) (op2 gt3 ta tb) := x_cmp op_gt opl_gt ha hb (nomark _)
theorem x_ge (ha : XE X C a ta) (hb : XE X C b tb) : XE X C (.Compare a [.GtE] [b] pos) (op2 ge3 ta tb) := x_cmp op_ge opl_ge ha hb (nomark _)
theorem xt_lt (ha : XE X C a ta) (hb : XE X C b tb) : XT X C (.Compare a [.Lt] [b] pos) (tst3 (op2 lt3 ta tb)) := xt_cmp op_lt opl_lt ha hb (nomark _)
theorem xt_le (ha : XE X C a ta) (hb : XE X C b tb) : XT X C (.Compare a [.LtE] [b] pos) (tst3 (op2 le3 ta tb)) := xt_cmp op_le opl_le ha hb (nomark _)
theorem xt_gt (ha : XE X C a ta) (hb : XE X C b tb) : XT X C (.Compare a [.Gt] [b] pos) (tst3 (op2 gt3 ta tb)) := xt_cmp op_gt opl_gt ha hb (nomark _)
theorem xt_ge (ha : XE X C a ta) (hb : XE X C b tb) : XT X C (.Compare a [.GtE] [b] pos) (tst3 (op2 ge3 ta tb)) := xt_cmp op_ge opl_ge ha hb (nomark _)
end
/-! ### ==, !=, is None -/
/-- plain and not too deep -/
def D3.fit (d : D3) : Bool := d.ok && SeqAt.shaped (pd d)
def D3.eqb (a b : D3) : Bool := PyData.eqv (pd a) (pd b)
def eq3 (neg : Bool) (a b : R3) (Q : R3 → Prop) : Prop :=
  match a, b with
  | .im d, .im e => d.fit = true ∧ e.fit = true ∧ Q (.im (.bl (neg ^^ d.eqb e)))
  | _, _ => False
theorem fit_ok {d : D3} (h : d.fit = true) : d.ok = true ∧ SeqAt.shaped (pd d) = true := by
  unfold D3.fit at h
  rwa [Bool.and_eq_true] at h
theorem opl_eq {g : Gx} : OpL g (rEqD g.K) (eq3 false) := by
  intro F ρ σ H a b x y Q3 Q fr ra rb ho k
  unfold eq3 at ho
  split at ho
  · rename_i d e
    obtain ⟨f1, f2, q⟩ := ho
    obtain ⟨o1, s1⟩ := fit_ok f1
    obtain ⟨o2, s2⟩ := fit_ok f2
    refine ⟨pd d, pd e, Im.dp fr.ex d x o1 ra, Im.dp fr.ex e y o2 rb, s1, s2, k _ F H _ q (Stp.refl fr) (Res.im ?_)⟩
    rw [Bool.false_xor]
    exact im_bl _ F
  · exact ho.elim
theorem opl_ne {g : Gx} : OpL g (rNeD g.K) (eq3 true) := by
  intro F ρ σ H a b x y Q3 Q fr ra rb ho k
  unfold eq3 at ho
  split at ho
  · rename_i d e
    obtain ⟨f1, f2, q⟩ := ho
    obtain ⟨o1, s1⟩ := fit_ok f1
    obtain ⟨o2, s2⟩ := fit_ok f2
    refine ⟨pd d, pd e, Im.dp fr.ex d x o1 ra, Im.dp fr.ex e y o2 rb, s1, s2, k _ F H _ q (Stp.refl fr) (Res.im ?_)⟩
    rw [Bool.true_xor]
    exact im_bl _ F
  · exact ho.elim
def D3.isN : D3 → Bool
  | .non => true
  | _ => false
def isN3 (neg : Bool) (a b : R3) (Q : R3 → Prop) : Prop :=
  match a, b with
  | .im d, .im .non => Q (.im (.bl (neg ^^ d.isN)))
  | _, _ => False
theorem isN_eq {g : Gx} {F : Hp} {d : D3} {x : V} (h : Im g F d x) : decide (x = .non) = d.isN := by
  cases d with
  | non => unfold Im at h; subst h; rfl
  | bl _ => unfold Im at h; subst h; rfl
  | int _ => unfold Im at h; subst h; rfl
  | str _ => unfold Im at h; subst h; rfl
  | tup _ => unfold Im at h; obtain ⟨_, _, rfl, _⟩ := h; rfl
  | lst _ => unfold Im at h; obtain ⟨_, _, rfl, _⟩ := h; rfl
  | web _ _ _ _ => unfold Im at h; obtain ⟨_, _, _, _, _, _, _, rfl, _⟩ := h; rfl
theorem opl_isN {g : Gx} : OpL g (fun x y H Q => y = .non ∧ Q (.bl (decide (x = .non))) H) (isN3 false) := by
  intro F ρ σ H a b x y Q3 Q fr ra rb ho k
  unfold isN3 at ho
  split at ho
  · rename_i d
    refine ⟨by unfold RepR Im at rb; exact rb, k _ F H _ ho (Stp.refl fr) (Res.im ?_)⟩
    rw [isN_eq ra, Bool.false_xor]
    exact im_bl _ F
  · exact ho.elim
theorem opl_notN {g : Gx} : OpL g (fun x y H Q => y = .non ∧ Q (.bl (!decide (x = .non))) H) (isN3 true) := by
  intro F ρ σ H a b x y Q3 Q fr ra rb ho k
  unfold isN3 at ho
  split at ho
  · rename_i d
    refine ⟨by unfold RepR Im at rb; exact rb, k _ F H _ ho (Stp.refl fr) (Res.im ?_)⟩
    rw [isN_eq ra, Bool.true_xor]
    exact im_bl _ F
  · exact ho.elim
section
variable {X : Cx} {C : Addr} {a b : Expr} {ta tb : TE3} {pos : Pos}
theorem x_eq (hu : X.A.units + 64 < cLine) (ha : XE X C a ta) (hb : XE X C b tb) : XE X C (.Compare a [.Eq] [b] pos) (op2 (eq3 false) ta tb) := x_cmp (op_eqD hu) opl_eq ha hb (nomark _)
theorem x_ne (hu : X.A.units + 64 < cLine) (ha : XE X C a ta) (hb : XE X C b tb) : XE X C (.Compare a [.NotEq] [b] pos) (op2 (eq3 true) ta tb) := x_cmp (op_neD hu) opl_ne ha hb (nomark _)
theorem xt_eq (hu : X.A.units + 64 < cLine) (ha : XE X C a ta) (hb : XE X C b tb) : XT X C (.Compare a [.Eq] [b] pos) (tst3 (op2 (eq3 false) ta tb)) := xt_cmp (op_eqD hu) opl_eq ha hb (nomark _)
theorem xt_ne (hu : X.A.units + 64 < cLine) (ha : XE X C a ta) (hb : XE X C b tb) : XT X C (.Compare a [.NotEq] [b] pos) (tst3 (op2 (eq3 true) ta tb)) := xt_cmp (op_neD hu) opl_ne ha hb (nomark _)
theorem x_isN (ha : XE X C a ta) (hb : XE X C b tb) : XE X C (.Compare a [.Is] [b] pos) (op2 (isN3 false) ta tb) := x_cmp op_isN opl_isN ha hb (nomark _)
theorem x_notN (ha : XE X C a ta) (hb : XE X C b tb) : XE X C (.Compare a [.IsNot] [b] pos) (op2 (isN3 true) ta tb) := x_cmp op_notN opl_notN ha hb (nomark _)
theorem xt_isN (ha : XE X C a ta) (hb : XE X C b tb) : XT X C (.Compare a [.Is] [b] pos) (tst3 (op2 (isN3 false) ta tb)) := xt_cmp op_isN opl_isN ha hb (nomark _)
theorem xt_notN (ha : XE X C a ta) (hb : XE X C b tb) : XT X C (.Compare a [.IsNot] [b] pos) (tst3 (op2 (isN3 true) ta tb)) := xt_cmp op_notN opl_notN ha hb (nomark _)
end

/-! ### in, not in -/
def rInT (K : PySem.W.Frag) (neg : Bool) : R2 := fun x y H Q => ∃ d ds, Dp K H x d ∧ Dp K H y (.tuple ds) ∧ SeqAt.shaped d = true ∧ SeqAt.shaped (.tuple ds) = true ∧ Q (.bl (neg ^^ ds.any fun z => PyData.eqv z d)) H
theorem canLay_tup {ds : List PyData} (h : SeqAt.shaped (.tuple ds) = true) : PyData.canLayAll0 ds = true := SeqAt.canLay_of_shaped h
theorem room_min {u a b c : Nat} (hu : u + 65 < c) (h : b ≤ 64) : u + 1 + min a b < c := by
  have : min a b ≤ b := Nat.min_le_right _ _
  omega
theorem op_inT {X : Cx} (hu : X.A.units + 65 < cLine) : OpR X (compareOp .In) (rInT X.K false) := by
  intro pins s σ H x y; intro v u Q I rx ry h
  obtain ⟨d, ds, hd, he, sd, se, ans⟩ := h
  have q := ans
  obtain ⟨ax, r1⟩ := Dp.reads I d x v hd rx
  obtain ⟨bs, r2⟩ := Dp.reads I (.tuple ds) y u he ry
  refine SeqAt.in_tuple_reads r2 r1 (canLay_tup se) (SeqAt.canLay_of_shaped sd) (room_min hu (SeqAt.depth_of_shaped sd)) ⟨.bl _, H, I, ?_, q⟩
  rw [Bool.false_xor]
  rfl
theorem op_notInT {X : Cx} (hu : X.A.units + 65 < cLine) : OpR X (compareOp .NotIn) (rInT X.K true) := by
  intro pins s σ H x y; intro v u Q I rx ry h
  obtain ⟨d, ds, hd, he, sd, se, ans⟩ := h
  have q := ans
  obtain ⟨ax, r1⟩ := Dp.reads I d x v hd rx
  obtain ⟨bs, r2⟩ := Dp.reads I (.tuple ds) y u he ry
  refine SeqAt.notIn_tuple_reads r2 r1 (canLay_tup se) (SeqAt.canLay_of_shaped sd) (room_min hu (SeqAt.depth_of_shaped sd)) ⟨.bl _, H, I, ?_, q⟩
  rw [Bool.true_xor]
  rfl
def in3 (neg : Bool) (a b : R3) (Q : R3 → Prop) : Prop :=
  match a, b with
  | .im d, .im (.tup ds) => d.fit = true ∧ (D3.tup ds).fit = true ∧ Q (.im (.bl (neg ^^ ds.any fun z => z.eqb d)))
  | .im d, .im (.lst ds) => d.fit = true ∧ (D3.lst ds).fit = true ∧ Q (.im (.bl (neg ^^ ds.any fun z => z.eqb d)))
  | .im d, .ls ds => d.fit = true ∧ (D3.lst ds).fit = true ∧ Q (.im (.bl (neg ^^ ds.any fun z => z.eqb d)))
  | .im d, .dc ks => d.key = true ∧ Q (.im (.bl (neg ^^ decide (nk d ∈ ks.map nk))))
  | _, _ => False
/-! ### dicts -/
def ent (xs : List (NestedKey × Addr)) : List (NestedKey × Addr × Value) := xs.map fun x => (x.1, x.2, Value.bool true)
theorem ent_keys (xs : List (NestedKey × Addr)) : (ent xs).map (·.1) = xs.map (·.1) := by
  unfold ent
  rw [List.map_map]
  rfl
section
variable {g : Gx} {F H : Hp}
theorem KeysAt.keys : ∀ {ks : List D3} {xs : List (NestedKey × Addr)}, KeysAt g F ks xs → xs.map (·.1) = ks.map nk
  | [], xs, h => by
    unfold KeysAt at h
    subst h
    rfl
  | k :: ks, _, h => by
    obtain ⟨x, r, rfl, e, _, _, h2⟩ := h
    rw [List.map_cons, List.map_cons, e, KeysAt.keys h2]
theorem KeysAt.length {ks : List D3} {xs : List (NestedKey × Addr)} (h : KeysAt g F ks xs) : ks.length = xs.length := by
  have := congrArg List.length h.keys
  simpa using this.symm
theorem KeysAt.all : ∀ {ks : List D3} {xs : List (NestedKey × Addr)}, KeysAt g F ks xs → ∀ x ∈ xs, ∃ k ∈ ks, x.1 = nk k ∧ k.key = true ∧ Im g F k (.ref x.2)
  | [], xs, h, x, hx => by
    unfold KeysAt at h
    subst h
    cases hx
  | k :: ks, _, h, x, hx => by
    obtain ⟨y, r, rfl, e, e2, h1, h2⟩ := h
    obtain rfl | hx := List.mem_cons.mp hx
    · exact ⟨k, List.mem_cons_self, e, e2, h1⟩
    · obtain ⟨k', m, z⟩ := KeysAt.all h2 x hx
      exact ⟨k', List.mem_cons_of_mem _ m, z⟩
theorem KeysAt.snoc {k : D3} {a : Addr} (hk : k.key = true) (hi : Im g F k (.ref a)) : ∀ {ks : List D3} {xs : List (NestedKey × Addr)}, KeysAt g F ks xs → KeysAt g F (ks ++ [k]) (xs ++ [(nk k, a)])
  | [], xs, h => by
    unfold KeysAt at h
    subst h
    exact ⟨_, _, rfl, rfl, hk, hi, rfl⟩
  | _ :: ks, _, h => by
    obtain ⟨y, r, rfl, e, e2, h1, h2⟩ := h
    exact ⟨y, _, rfl, e, e2, h1, KeysAt.snoc hk hi h2⟩
theorem KeysAt.ims : ∀ {ks : List D3} {xs : List (NestedKey × Addr)}, KeysAt g F ks xs → Ims g F ks (xs.map fun x => V.ref x.2)
  | [], xs, h => by
    unfold KeysAt at h
    subst h
    exact Ims.nil
  | _ :: ks, _, h => by
    obtain ⟨y, r, rfl, _, _, h1, h2⟩ := h
    exact Ims.cons h1 (KeysAt.ims h2)
end
section
variable {X : Cx} {C : Addr} {pins : List (Addr × Obj)} {σ : L2.St} {F H : Hp} {s : Shared}
mutual
theorem Im.nested (I : Inv X pins σ H s) (e : Same F H) : ∀ (d : D3) (v : V) (u : Value), d.hk = true → Im (gx X C) F d v → RelV v u → NestedIs s.heap (nk d) u
  | .non, v, u, _, h, r => by
    unfold Im at h; subst h
    have r : u = Value.none := r
    subst r; unfold nk; exact .none
  | .bl b, v, u, _, h, r => by
    unfold Im at h; subst h
    have r : u = Value.bool b := r
    subst r; unfold nk; exact .bool rfl
  | .int i, v, u, _, h, r => by
    unfold Im at h; subst h
    obtain ⟨t, rfl⟩ := r
    unfold nk; exact .int _ _
  | .str x, v, u, _, h, r => by
    unfold Im at h; subst h
    obtain ⟨t, rfl⟩ := r
    unfold nk; exact .text _ _
  | .tup ds, v, u, k, h, r => by
    unfold Im at h
    unfold D3.hk at k
    obtain ⟨a, vs, rfl, h1, h2⟩ := h
    have r : u = Value.ref a := r
    subst r
    obtain ⟨hz, its, rv, o, ho, hc, n, hd⟩ := I.hok a _ (e _ _ h1)
    unfold nk
    exact .tup ho hc hd (by simpa using Ims.nested I e ds vs its k h2 rv)
  | .lst _, _, _, k, _, _ => by unfold D3.hk at k; cases k
  | .web _ _ _ _, _, _, k, _, _ => by unfold D3.hk at k; cases k
theorem Ims.nested (I : Inv X pins σ H s) (e : Same F H) : ∀ (ds : List D3) (vs : List V) (us : List Value), D3.hks ds = true → Ims (gx X C) F ds vs → Vals vs us → NestedAll s.heap (nks ds) us
  | [], vs, us, _, h, r => by
    unfold Ims at h; subst h
    cases r
    unfold nks; exact .nil
  | d :: ds, vs, us, k, h, r => by
    unfold D3.hks at k
    rw [Bool.and_eq_true] at k
    obtain ⟨v, vr, rfl, h1, h2⟩ := h.uncons
    cases r with
    | cons r rr =>
      unfold nks
      exact .cons (Im.nested I e d v _ k.1 h1 r) (Ims.nested I e ds vr _ k.2 h2 rr)
end
theorem key_is (I : Inv X pins σ H s) (e : Same F H) {d : D3} {a : Addr} (k : d.key = true) (h : Im (gx X C) F d (.ref a)) : (nestedKind X.prog X.w).is s.heap (nk d) a := by
  unfold D3.key at k
  rw [Bool.and_eq_true, Bool.and_eq_true] at k
  exact ⟨Im.nested I e d _ _ k.1.2 h rfl, of_decide_eq_true k.2⟩
theorem key_ref {g : Gx} {d : D3} {v : V} (k : d.key = true) (h : Im g F d v) : ∃ a, v = .ref a := by
  unfold D3.key at k
  rw [Bool.and_eq_true, Bool.and_eq_true] at k
  cases d with
  | tup ds => unfold Im at h; obtain ⟨a, _, rfl, _⟩ := h; exact ⟨a, rfl⟩
  | _ => cases k.1.1
theorem dict_is (I : Inv X pins σ H s) (e : Same F H) {d : Addr} {ks : List D3} {xs : List (NestedKey × Addr)} (hH : H d = some (dN X.prog X.w d xs)) (h : KeysAt (gx X C) F ks xs) :
    (d == sysModules) = false ∧ (ent xs).length ≤ sizeLine ∧ s.heap.DictOfH (nestedKind X.prog X.w) d (ent xs) := by
  obtain ⟨⟨h1, h2, h3, o, es, ep, ho, hx, hd, he⟩, _⟩ := I.hok d _ hH
  refine ⟨h1, by unfold ent; rw [List.length_map]; exact h2, o, es, ep, ho, hx, hd, he, fun x hx => ?_, by rw [ent_keys]; exact h3⟩
  unfold ent at hx
  rcases List.mem_map.mp hx with ⟨y, hy, rfl⟩
  obtain ⟨k, _, e1, e2, e3⟩ := h.all y hy
  show (nestedKind X.prog X.w).is s.heap y.1 y.2
  rw [e1]
  exact key_is I e e2 e3
theorem dict_ok {P : Program} {w : World} {h' : Heap} {H' : Hp} {d : Addr} {xs : List (NestedKey × Addr)} (h1 : (d == sysModules) = false) (h2 : xs.length ≤ sizeLine) (hm : h'.DictOfH (nestedKind P w) d (ent xs)) : ObjOk P w H' h' d (dN P w d xs) := by
  obtain ⟨o, es, ep, ho, hx, hd, he, _, hn⟩ := hm
  refine ⟨⟨h1, h2, by rw [← ent_keys]; exact hn, o, es, ep, ho, hx, hd, he⟩, ⟨o, ho⟩, fun a b ⟨z1, z2, z3, o', es', ep', y1, y2, y3, y4⟩ kk => ⟨z1, z2, z3, o', es', ep', kk _ y1, y2, y3, y4⟩⟩
theorem atKey_some (xs : List (NestedKey × Addr)) (k : NestedKey) : (atKey (ent xs) k).isSome = decide (k ∈ xs.map (·.1)) := by
  unfold atKey
  rw [Option.isSome_map]
  induction xs with
  | nil => rfl
  | cons x xs ih =>
    show (List.find? _ ((x.1, x.2, Value.bool true) :: ent xs)).isSome = _
    rw [List.find?_cons]
    by_cases h : x.1 = k
    · simp [h]
    · have h' : ¬ k = x.1 := fun e => h e.symm
      rw [decide_eq_false h]
      simp only
      rw [ih]
      simp [h']
/-- k in d -/
def rInN (g : Gx) (neg : Bool) : R2 := fun x y H Q => ∃ F k ks d xs, Same F H ∧ Im g F k x ∧ k.key = true ∧ y = .ref d ∧ H d = some (dN g.P g.w d xs) ∧ KeysAt g F ks xs ∧ Q (.bl (neg ^^ decide (nk k ∈ ks.map nk))) H
theorem op_inN (hu : X.A.units + 9 < cLine) : OpR X (compareOp .In) (rInN (gx X C) false) := by
  intro pins s σ H x y; intro v u Q I rx ry h
  obtain ⟨F, k, ks, d, xs, e, h1, h2, rfl, h3, h4, q⟩ := h
  obtain ⟨a, rfl⟩ := key_ref h2 h1
  have rx : v = Value.ref a := rx
  have ry : u = Value.ref d := ry
  subst rx ry
  obtain ⟨z1, z2, z3⟩ := dict_is I e h3 h4
  refine wpAny_in_heap (knd := nestedKind X.prog X.w) (by show X.A.units + 1 + 8 < cLine; omega) (key_is I e h2 h1) z1 z3 ⟨_, H, I.tok _, ?_, q⟩
  rw [atKey_some, h4.keys, Bool.false_xor]
  rfl
theorem op_notInN (hu : X.A.units + 9 < cLine) : OpR X (compareOp .NotIn) (rInN (gx X C) true) := by
  intro pins s σ H x y; intro v u Q I rx ry h
  obtain ⟨F, k, ks, d, xs, e, h1, h2, rfl, h3, h4, q⟩ := h
  obtain ⟨a, rfl⟩ := key_ref h2 h1
  have rx : v = Value.ref a := rx
  have ry : u = Value.ref d := ry
  subst rx ry
  obtain ⟨z1, z2, z3⟩ := dict_is I e h3 h4
  refine PyProof.Rows.wpAny_notIn_heap (knd := nestedKind X.prog X.w) (by show X.A.units + 1 + 8 < cLine; omega) (key_is I e h2 h1) z1 z3 ⟨_, H, I.tok _, ?_, q⟩
  rw [atKey_some, h4.keys, Bool.true_xor]
  rfl
/-- x in anything -/
def rIn3 (g : Gx) (neg : Bool) : R2 := fun x y H Q => rInT g.K neg x y H Q ∨ ((if neg then rNotInD g.K x y H Q else rInD g.K x y H Q) ∨ rInN g neg x y H Q)
theorem op_in3 (hu : X.A.units + 65 < cLine) : OpR X (compareOp .In) (rIn3 (gx X C) false) := (op_inT hu).or ((op_inD hu).or (op_inN (by omega)))
theorem op_notIn3 (hu : X.A.units + 65 < cLine) : OpR X (compareOp .NotIn) (rIn3 (gx X C) true) := (op_notInT hu).or ((op_notInD hu).or (op_notInN (by omega)))
end
theorem pds_any (d : D3) (ds : List D3) : (pds ds).any (fun z => PyData.eqv z (pd d)) = ds.any fun z => z.eqb d := by
  rw [pds_map, List.any_map]
  rfl
theorem opl_in {g : Gx} {neg : Bool} : OpL g (rIn3 g neg) (in3 neg) := by
  intro F ρ σ H a b x y Q3 Q fr ra rb ho k
  have lst : ∀ {d : D3} {ds : List D3}, Im g F d x → d.fit = true → (D3.lst ds).fit = true → Dp g.K H y (.list (pds ds)) → Q3 (.im (.bl (neg ^^ ds.any fun z => z.eqb d))) → rIn3 g neg x y H Q := fun {d ds} hd f1 f2 hy q => by
    obtain ⟨o1, s1⟩ := fit_ok f1
    obtain ⟨o2, s2⟩ := fit_ok f2
    have fin := k _ F H (.bl (neg ^^ ds.any fun z => z.eqb d)) q (Stp.refl fr) (Res.im (im_bl _ F))
    have s3 : SeqAt.shaped (.list (pds ds)) = true := by
      have := s2
      unfold pd at this
      exact this
    refine .inr (.inl ?_)
    cases neg with
    | false =>
      rw [if_neg (show ¬ (false = true) by decide)]
      refine ⟨pd d, pds ds, Im.dp fr.ex d x o1 hd, hy, s1, s3, ?_⟩
      rw [pds_any]
      rw [Bool.false_xor] at fin
      exact fin
    | true =>
      rw [if_pos rfl]
      refine ⟨pd d, pds ds, Im.dp fr.ex d x o1 hd, hy, s1, s3, ?_⟩
      rw [pds_any]
      rw [Bool.true_xor] at fin
      exact fin
  unfold in3 at ho
  split at ho
  · rename_i d ds
    obtain ⟨f1, f2, q⟩ := ho
    obtain ⟨o1, s1⟩ := fit_ok f1
    obtain ⟨o2, s2⟩ := fit_ok f2
    have hy := Im.dp fr.ex _ y o2 rb
    unfold pd at hy s2
    exact .inl ⟨pd d, pds ds, Im.dp fr.ex d x o1 ra, hy, s1, s2, k _ F H _ q (Stp.refl fr) (Res.im (by rw [pds_any]; exact im_bl _ F))⟩
  · rename_i d ds
    obtain ⟨f1, f2, q⟩ := ho
    have hy := Im.dp fr.ex _ y (fit_ok f2).1 rb
    unfold pd at hy
    exact lst ra f1 f2 hy q
  · rename_i d ds
    obtain ⟨f1, f2, q⟩ := ho
    obtain ⟨p, vs, rfl, h1, h2, h3⟩ := rb
    have o2 := (fit_ok f2).1
    unfold D3.ok at o2
    exact lst ra f1 f2 (.lst (SqL.of h2) (Ims.dp fr.ex ds vs o2 h3)) q
  · rename_i d ks
    obtain ⟨f1, q⟩ := ho
    obtain ⟨p, xs, rfl, h1, h2, h3⟩ := rb
    exact .inr (.inr ⟨F, d, ks, p, xs, fr.ex, ra, f1, rfl, h2, h3, k _ F H _ q (Stp.refl fr) (Res.im (im_bl _ F))⟩)
  · exact ho.elim
section
variable {X : Cx} {C : Addr} {a b : Expr} {ta tb : TE3} {pos : Pos} {i : Nat}
theorem x_in (hu : X.A.units + 65 < cLine) (ha : XE X C a ta) (hb : XE X C b tb) (hm : behindInMarks .In b = false := by rfl) : XE X C (.Compare a [.In] [b] pos) (op2 (in3 false) ta tb) := x_cmp (op_in3 (C := C) hu) opl_in ha hb hm
theorem x_notIn (hu : X.A.units + 65 < cLine) (ha : XE X C a ta) (hb : XE X C b tb) (hm : behindInMarks .NotIn b = false := by rfl) : XE X C (.Compare a [.NotIn] [b] pos) (op2 (in3 true) ta tb) := x_cmp (op_notIn3 (C := C) hu) opl_in ha hb hm
theorem xt_in (hu : X.A.units + 65 < cLine) (ha : XE X C a ta) (hb : XE X C b tb) (hm : behindInMarks .In b = false := by rfl) : XT X C (.Compare a [.In] [b] pos) (tst3 (op2 (in3 false) ta tb)) := xt_cmp (op_in3 (C := C) hu) opl_in ha hb hm
theorem xt_notIn (hu : X.A.units + 65 < cLine) (ha : XE X C a ta) (hb : XE X C b tb) (hm : behindInMarks .NotIn b = false := by rfl) : XT X C (.Compare a [.NotIn] [b] pos) (tst3 (op2 (in3 true) ta tb)) := xt_cmp (op_notIn3 (C := C) hu) opl_in ha hb hm
theorem x_inB (hu : X.A.units + 65 < cLine) (ha : XE X C a ta) (hb : PE X b (tVar i)) (hm : behindInMarks .In b = false := by rfl) : XE X C (.Compare a [.In] [b] pos) (op2B (in3 false) ta i) := x_cmpB (op_in3 (C := C) hu) opl_in ha hb hm
theorem x_notInB (hu : X.A.units + 65 < cLine) (ha : XE X C a ta) (hb : PE X b (tVar i)) (hm : behindInMarks .NotIn b = false := by rfl) : XE X C (.Compare a [.NotIn] [b] pos) (op2B (in3 true) ta i) := x_cmpB (op_notIn3 (C := C) hu) opl_in ha hb hm
theorem xt_inB (hu : X.A.units + 65 < cLine) (ha : XE X C a ta) (hb : PE X b (tVar i)) (hm : behindInMarks .In b = false := by rfl) : XT X C (.Compare a [.In] [b] pos) (tst3 (op2B (in3 false) ta i)) := xt_cmpB (op_in3 (C := C) hu) opl_in ha hb hm
theorem xt_notInB (hu : X.A.units + 65 < cLine) (ha : XE X C a ta) (hb : PE X b (tVar i)) (hm : behindInMarks .NotIn b = false := by rfl) : XT X C (.Compare a [.NotIn] [b] pos) (tst3 (op2B (in3 true) ta i)) := xt_cmpB (op_notIn3 (C := C) hu) opl_in ha hb hm
end
end L3

set_option Elab.async false
set_option autoImplicit false
set_option linter.all false
set_option maxRecDepth 100000
/-! L3, part d: calls of built-ins, subscripts, slices, attributes, pops. -/
namespace L3
open PySem PySem.Spec L2

/-! ### calls of one argument -/
def CL (g : Gx) (r : List V → Hp → VK → Prop) (op : R3 → (R3 → Prop) → Prop) : Prop :=
  ∀ (F : Hp) (ρ : Rho) (σ : L2.St) (H : Hp) (a : R3) (x : V) (Q3 : R3 → Prop) (Q : VK), Frm g F ρ σ H → RepR g F H a x → op a Q3 →
    (∀ c F' H' v, Q3 c → Stp g F ρ σ H F' ρ σ H' → Res g F' H' ρ σ c v ρ σ H → Q v H') → r [x] H Q
def call1 (op : R3 → (R3 → Prop) → Prop) (t : TE3) : TE3 := fun ρ Q => t ρ fun a ρ1 => op a fun c => Q c ρ1
def call1B (op : R3 → (R3 → Prop) → Prop) (i : Nat) : TE3 := fun ρ Q => ∃ a, ρ[i]? = some (some a) ∧ op a fun c => Q c ρ
section
variable {g : Gx} {σ : L2.St} {H : Hp} {Q : VK} {r : List V → Hp → VK → Prop} {op : R3 → (R3 → Prop) → Prop} {t : TE3}
theorem low_c1 (ho : CL g r op) (h : low g (call1 op t) σ H Q) : tCB r (tCons (low g t) tNil) σ H Q := by
  obtain ⟨F, ρ, Q3, fr, q, k⟩ := h
  refine ⟨F, ρ, _, fr, q, fun a ρ1 F1 H1 x h1 s1 r1 => ?_⟩
  exact ho F1 ρ1 σ H1 a x _ Q s1.fr r1.rep h1 fun c F' H' v hc s2 r2 => k c ρ1 F' H' v hc (s1.trans s2) (r2.trans s1)
theorem low_c1B {i : Nat} (ho : CL g r op) (h : low g (call1B op i) σ H Q) : tCB r (tCons (tVar i) tNil) σ H Q := by
  obtain ⟨F, ρ, Q3, fr, ⟨a, e, q⟩, k⟩ := h
  obtain ⟨x, e', ra⟩ := fr.rep i a e
  exact ⟨x, e', ho F ρ σ H a x _ Q fr ra q fun c F' H' v hc s2 r2 => k c ρ F' H' v hc s2 r2⟩
end
section
variable {X : Cx} {C : Addr} {e : Expr} {t : TE3} {pos p : Pos} {x : Str} {id T : String} {r : List V → Hp → VK → Prop} {op : R3 → (R3 → Prop) → Prop} {i : Nat}
theorem x_callB (hc : CallR X (.builtin id) r) (hl : CL (gx X C) r op) (hg : Gl X x) (hm : X.mg x = none) (hv : bootBuiltins x = some (.builtin id)) (ha : XE X C e t) (hn : x ≠ "__name__" := by decide) (hdb : (x == ("__debug__" : Str)) = false := by decide)
    (hs : starEach [e] X.env = (false, eval e X.env) :: starEach [] X.env := by rfl) (hpl : (backTo pos (starEach [] X.env)).any (·.1) = false := by rfl) : XE X C (.Call (.Name x p) [e] [] pos) (call1 op t) :=
  PE.of (pe_callB hc hg hm hv (pa_cons ha pa_nil hs) hn hdb hs hpl) fun _ _ _ => low_c1 hl
theorem x_callBB (hc : CallR X (.builtin id) r) (hl : CL (gx X C) r op) (hg : Gl X x) (hm : X.mg x = none) (hv : bootBuiltins x = some (.builtin id)) (ha : PE X e (tVar i)) (hn : x ≠ "__name__" := by decide) (hdb : (x == ("__debug__" : Str)) = false := by decide)
    (hs : starEach [e] X.env = (false, eval e X.env) :: starEach [] X.env := by rfl) (hpl : (backTo pos (starEach [] X.env)).any (·.1) = false := by rfl) : XE X C (.Call (.Name x p) [e] [] pos) (call1B op i) :=
  PE.of (pe_callB hc hg hm hv (pa_cons ha pa_nil hs) hn hdb hs hpl) fun _ _ _ => low_c1B hl
theorem x_callTy (hc : CallR X (.type T) r) (hl : CL (gx X C) r op) (hg : Gl X x) (hm : X.mg x = none) (hv : bootBuiltins x = some (.type T)) (ha : XE X C e t) (hn : x ≠ "__name__" := by decide) (hdb : (x == ("__debug__" : Str)) = false := by decide)
    (hs : starEach [e] X.env = (false, eval e X.env) :: starEach [] X.env := by rfl) (hpl : (backTo pos (starEach [] X.env)).any (·.1) = false := by rfl) : XE X C (.Call (.Name x p) [e] [] pos) (call1 op t) :=
  PE.of (pe_callTy hc hg hm hv (pa_cons ha pa_nil hs) hn hdb hs hpl) fun _ _ _ => low_c1 hl
theorem x_callTyB (hc : CallR X (.type T) r) (hl : CL (gx X C) r op) (hg : Gl X x) (hm : X.mg x = none) (hv : bootBuiltins x = some (.type T)) (ha : PE X e (tVar i)) (hn : x ≠ "__name__" := by decide) (hdb : (x == ("__debug__" : Str)) = false := by decide)
    (hs : starEach [e] X.env = (false, eval e X.env) :: starEach [] X.env := by rfl) (hpl : (backTo pos (starEach [] X.env)).any (·.1) = false := by rfl) : XE X C (.Call (.Name x p) [e] [] pos) (call1B op i) :=
  PE.of (pe_callTy hc hg hm hv (pa_cons ha pa_nil hs) hn hdb hs hpl) fun _ _ _ => low_c1B hl
end
/-- the items of what is a list -/
def R3.items : R3 → Option (List D3)
  | .im (.lst ds) => some ds
  | .ls ds => some ds
  | _ => none
theorem items_at {g : Gx} {F H : Hp} {a : R3} {x : V} {ds : List D3} (e : Same F H) (h : RepR g F H a x) (hi : a.items = some ds) : ∃ p vs, x = .ref p ∧ SqL g.K H p vs ∧ Ims g F ds vs := by
  cases a with
  | im d =>
    cases d with
    | lst es =>
      cases hi
      obtain ⟨p, vs, rfl, h1, h2⟩ := rep_lst h
      exact ⟨p, vs, rfl, e.seq h1, h2⟩
    | _ => cases hi
  | ls es =>
    cases hi
    obtain ⟨p, vs, rfl, _, h1, h2⟩ := h
    exact ⟨p, vs, rfl, SqL.of h1, h2⟩
  | dc _ => cases hi
  | tp _ _ => cases hi
  | ob _ _ => cases hi
def len3 (a : R3) (Q : R3 → Prop) : Prop :=
  match a with
  | .im (.tup ds) => Q (.im (.int ds.length))
  | .im (.lst ds) => Q (.im (.int ds.length))
  | .ls ds => Q (.im (.int ds.length))
  | _ => False
def rLen2 (K : PySem.W.Frag) : List V → Hp → VK → Prop := fun xs H Q => ∃ p ys, xs = [.ref p] ∧ (SqL K H p ys ∨ SqT K H p ys) ∧ Q (.int ys.length) H
theorem cl_len {g : Gx} : CL g (rLen2 g.K) len3 := by
  intro F ρ σ H a x Q3 Q fr ra ho k
  unfold len3 at ho
  split at ho
  · rename_i ds
    obtain ⟨p, vs, rfl, h1, h2⟩ := rep_tup ra
    exact ⟨p, vs, rfl, .inr (SqT.of (fr.ex _ _ h1)), by rw [← h2.length]; exact k _ F H _ ho (Stp.refl fr) (Res.im (im_int _ F))⟩
  · rename_i ds
    obtain ⟨p, vs, rfl, h1, h2⟩ := items_at fr.ex ra rfl
    exact ⟨p, vs, rfl, .inl h1, by rw [← h2.length]; exact k _ F H _ ho (Stp.refl fr) (Res.im (im_int _ F))⟩
  · rename_i ds
    obtain ⟨p, vs, rfl, h1, h2⟩ := items_at fr.ex ra rfl
    exact ⟨p, vs, rfl, .inl h1, by rw [← h2.length]; exact k _ F H _ ho (Stp.refl fr) (Res.im (im_int _ F))⟩
  · exact ho.elim
def tuple3 (a : R3) (Q : R3 → Prop) : Prop :=
  match a with
  | .im (.tup ds) => Q (.im (.tup ds))
  | .im (.lst ds) => Q (.im (.tup ds))
  | .ls ds => Q (.im (.tup ds))
  | _ => False
def rTup2 (K : PySem.W.Frag) : List V → Hp → VK → Prop := fun xs H Q => ∃ p ys, xs = [.ref p] ∧ ((SqL K H p ys ∧ ∀ l, H l = none → Q (.ref l) (upd H l (.tup ys))) ∨ (SqT K H p ys ∧ Q (.ref p) H))
theorem cl_tuple {g : Gx} : CL g (rTup2 g.K) tuple3 := by
  intro F ρ σ H a x Q3 Q fr ra ho k
  unfold tuple3 at ho
  split at ho
  · rename_i ds
    obtain ⟨p, vs, rfl, h1, h2⟩ := rep_tup ra
    exact ⟨p, vs, rfl, .inr ⟨SqT.of (fr.ex _ _ h1), k _ F H _ ho (Stp.refl fr) (Res.im ra)⟩⟩
  · rename_i ds
    obtain ⟨p, vs, rfl, h1, h2⟩ := items_at fr.ex ra rfl
    exact ⟨p, vs, rfl, .inl ⟨h1, fun l hl => k _ _ _ _ ho (Stp.newF fr hl) (Res.newT (fr.ex.free hl) h2)⟩⟩
  · rename_i ds
    obtain ⟨p, vs, rfl, h1, h2⟩ := items_at fr.ex ra rfl
    exact ⟨p, vs, rfl, .inl ⟨h1, fun l hl => k _ _ _ _ ho (Stp.newF fr hl) (Res.newT (fr.ex.free hl) h2)⟩⟩
  · exact ho.elim
/-- list(x) -/
def list3 (a : R3) (Q : R3 → Prop) : Prop :=
  match a with
  | .im (.tup ds) => Q (.ls ds)
  | .im (.lst ds) => Q (.ls ds)
  | .ls ds => Q (.ls ds)
  | .dc ks => Q (.ls ks)
  | _ => False
def rList2 (K : PySem.W.Frag) : List V → Hp → VK → Prop := fun xs H Q => ∃ p ys, xs = [.ref p] ∧ (SqL K H p ys ∨ SqT K H p ys) ∧ ∀ l, H l = none → Q (.ref l) (upd H l (.lst ys))
def rListN (g : Gx) : List V → Hp → VK → Prop := fun vs H Q => ∃ F ks d xs, vs = [.ref d] ∧ Same F H ∧ H d = some (dN g.P g.w d xs) ∧ KeysAt g F ks xs ∧ ∀ l, H l = none → Q (.ref l) (upd H l (.lst (xs.map fun x => V.ref x.2)))
theorem call_listN {X : Cx} {C : Addr} (hc : X.calm = true) : CallR X (.type "list") (rListN (gx X C)) := by
  intro pins s σ H vs us Q
  intro I r h
  obtain ⟨F, ks, d, xs, rfl, e, hd, hk, q⟩ := h
  obtain ⟨u, rfl, rx⟩ := r.one
  have rx : u = Value.ref d := rx
  subst rx
  obtain ⟨z1, z2, o, es, ep, ho, hx, hdt, he, _, _⟩ := dict_is (X := X) (C := C) I e hd hk
  have l1 : es.size = xs.length := by
    have := size_of_entries he
    unfold ent at this
    rw [List.length_map] at this
    exact this
  refine PySem.W.kdl_call (kdl_raw z1 hx hdt) (I.ok.hd hc) ho (by unfold ent at z2; rw [List.length_map] at z2; omega) fun h' tk acc' c' kp e' it => ?_
  have ea : acc'.toList = (xs.map fun x => x.2).map Value.ref := by
    refine List.ext_getElem? fun n => ?_
    have hl : acc'.toList.length = xs.length := by rw [Array.length_toList, it.1]; exact l1
    rw [List.map_map, List.getElem?_map]
    cases hn : acc'.toList[n]? with
    | none =>
      have h1 := List.getElem?_eq_none_iff.mp hn
      rw [List.getElem?_eq_none (show xs.length ≤ n by omega)]
      rfl
    | some v =>
      obtain ⟨en, hen, hv⟩ := it.2 n v (by rw [← Array.getElem?_toList]; exact hn)
      have qe := entry_at he n
      rw [hen] at qe
      unfold ent at qe
      rw [List.getElem?_map] at qe
      cases hb : xs[n]? with
      | none =>
        rw [hb] at qe
        cases (show some en = none from qe)
      | some b =>
        rw [hb] at qe
        have e2 : en = entryOfKey (nestedKind X.prog X.w) (b.1, b.2, Value.bool true) := Option.some.inj qe
        rw [hv, e2]
        rfl
  have rv : Vals (xs.map fun x => V.ref x.2) acc'.toList := by
    rw [ea]
    have := vals_refs (xs.map fun x => x.2)
    rw [List.map_map] at this
    exact this
  refine ⟨.ref s.heap.objs.size, _, I.laid (t' := tk) (o := .lst (xs.map fun x => V.ref x.2)) kp (Nat.le_refl _) ?_, rfl, q _ (I.hok.fresh (Nat.le_refl _))⟩
  refine ⟨?_, acc'.toList, c', rv, by rw [Array.toArray_toList]; exact e'⟩
  rw [List.length_map]
  unfold ent at z2
  rw [List.length_map] at z2
  exact z2
theorem call_list3 {X : Cx} {C : Addr} (hc : X.calm = true) : CallR X (.type "list") (fun xs H Q => rList2 X.K xs H Q ∨ rListN (gx X C) xs H Q) := call_list_of.or (call_listN hc)
theorem cl_list {g : Gx} : CL g (fun xs H Q => rList2 g.K xs H Q ∨ rListN g xs H Q) list3 := by
  intro F ρ σ H a x Q3 Q fr ra ho k
  unfold list3 at ho
  split at ho
  · rename_i ds
    obtain ⟨p, vs, rfl, h1, h2⟩ := rep_tup ra
    exact .inl ⟨p, vs, rfl, .inr (SqT.of (fr.ex _ _ h1)), fun l hl => k _ _ _ _ ho (Stp.newO fr hl) (Res.newL fr hl h2)⟩
  · rename_i ds
    obtain ⟨p, vs, rfl, h1, h2⟩ := items_at fr.ex ra rfl
    exact .inl ⟨p, vs, rfl, .inl h1, fun l hl => k _ _ _ _ ho (Stp.newO fr hl) (Res.newL fr hl h2)⟩
  · rename_i ds
    obtain ⟨p, vs, rfl, h1, h2⟩ := items_at fr.ex ra rfl
    exact .inl ⟨p, vs, rfl, .inl h1, fun l hl => k _ _ _ _ ho (Stp.newO fr hl) (Res.newL fr hl h2)⟩
  · rename_i ks
    obtain ⟨p, xs, rfl, h1, h2, h3⟩ := ra
    exact .inr ⟨F, ks, p, xs, rfl, fr.ex, h2, h3, fun l hl => k _ _ _ _ ho (Stp.newO fr hl) (Res.newL fr hl h3.ims)⟩
  · exact ho.elim
/-- any(x), all(x) of a list of truth values -/
def D3.toB : D3 → Option Bool
  | .bl b => some b
  | _ => none
def bls3 (ds : List D3) : Option (List Bool) := ds.mapM D3.toB
theorem ims_bls {g : Gx} {F : Hp} : ∀ {bs : List Bool} {vs : List V}, Ims g F (bs.map D3.bl) vs → vs = bs.map V.bl
  | [], vs, h => by
    unfold List.map Ims at h
    exact h
  | b :: bs, vs, h => by
    obtain ⟨v, r, rfl, h1, h2⟩ := Ims.uncons h
    unfold Im at h1
    subst h1
    rw [ims_bls h2]
    rfl
theorem ims_ints {g : Gx} {F : Hp} : ∀ {ns : List Int} {vs : List V}, Ims g F (ns.map D3.int) vs → vs = ns.map V.int
  | [], vs, h => by
    unfold List.map Ims at h
    exact h
  | b :: bs, vs, h => by
    obtain ⟨v, r, rfl, h1, h2⟩ := Ims.uncons h
    unfold Im at h1
    subst h1
    rw [ims_ints h2]
    rfl
def boolL (f : List Bool → Bool) (a : R3) (Q : R3 → Prop) : Prop := ∃ bs : List Bool, a.items = some (bs.map D3.bl) ∧ Q (.im (.bl (f bs)))
def intL (f : List Int → Int) (a : R3) (Q : R3 → Prop) : Prop := ∃ ns : List Int, a.items = some (ns.map D3.int) ∧ Q (.im (.int (f ns)))
theorem cl_any {g : Gx} : CL g (rAny g.K) (boolL fun bs => bs.any id) := by
  intro F ρ σ H a x Q3 Q fr ra ho k
  obtain ⟨bs, hi, q⟩ := ho
  obtain ⟨p, vs, rfl, h1, h2⟩ := items_at fr.ex ra hi
  rw [ims_bls h2] at h1
  exact ⟨p, bs, rfl, h1, k _ F H _ q (Stp.refl fr) (Res.im (im_bl _ F))⟩
theorem cl_all {g : Gx} : CL g (rAll g.K) (boolL fun bs => bs.all id) := by
  intro F ρ σ H a x Q3 Q fr ra ho k
  obtain ⟨bs, hi, q⟩ := ho
  obtain ⟨p, vs, rfl, h1, h2⟩ := items_at fr.ex ra hi
  rw [ims_bls h2] at h1
  exact ⟨p, bs, rfl, h1, k _ F H _ q (Stp.refl fr) (Res.im (im_bl _ F))⟩
theorem cl_sum {g : Gx} : CL g (rSum g.K) (intL List.sum) := by
  intro F ρ σ H a x Q3 Q fr ra ho k
  obtain ⟨ns, hi, q⟩ := ho
  obtain ⟨p, vs, rfl, h1, h2⟩ := items_at fr.ex ra hi
  rw [ims_ints h2] at h1
  exact ⟨p, ns, rfl, h1, k _ F H _ q (Stp.refl fr) (Res.im (im_int _ F))⟩
def int3 (a : R3) (Q : R3 → Prop) : Prop :=
  match a with
  | .im (.int i) => Q (.im (.int i))
  | _ => False
def rInt2 : List V → Hp → VK → Prop := fun xs H Q => (∃ i, xs = [.int i] ∧ Q (.int i) H) ∨ ∃ k, xs = [.bl k] ∧ Q (.int (if k then 1 else 0)) H
theorem cl_int {g : Gx} : CL g rInt2 int3 := by
  intro F ρ σ H a x Q3 Q fr ra ho k
  unfold int3 at ho
  split at ho
  · rename_i i
    have e := rep_int ra
    subst e
    exact .inl ⟨i, rfl, k _ F H _ ho (Stp.refl fr) (Res.im (im_int _ F))⟩
  · exact ho.elim
end L3

set_option Elab.async false
set_option autoImplicit false
set_option linter.all false
set_option maxRecDepth 100000
/-! L3, part s: sorted of lists of alike data, tuples of which some may be empty. -/
namespace PySem.W
open PySem PySem.Calls PyProof.Rows PySem.SeqAt

theorem keyLt_gen (x y : Value) : keyLt' general' x y = oneLt' false x y := rfl
theorem call_tuple_lt3 {A : Around} {s : Shared} {prog : Program} {w : World} {E : Value → Shared → Prop} {Q : Value → Shared → Prop} {l b : Addr} {items items2 : Array Value} {e r : Nat → Bool}
    (hl : s.heap.IsTuple l items) (hb : s.heap.IsTuple b items2) (he : ∀ j (j1 : j < items.size) (j2 : j < items2.size), EqAt A.in1 s items[j] items2[j] (e j))
    (hr : ∀ j (h1 : j < items.size) (h2 : j < items2.size), e j = false → RcLt A.in1 s items[j] items2[j] (r j))
    (h : Q (.bool (firstLt e r (decide (items.size < items2.size)) (List.range (min items.size items2.size)))) s) :
    wpAny (model prog w) A (call (.builtin "tuple.__lt__") [.ref l, .ref b]) Q E s := by
  obtain ⟨⟨k1, dd, data1, sl⟩, ho, hc, n, hd⟩ := id hl
  obtain ⟨⟨k2, dd2, data2, sl2⟩, ho2, hc2, n2, hd2⟩ := id hb
  simp only at hc hd hc2 hd2
  subst hc hd hc2 hd2
  exact call_meets F.slot_tuple_lt ⟨_, ho, rfl⟩ F.entry_tuple_lt (F.args_tuple_lt_2 _ _) (tuple_ltAt l b items items2 n n2 dd dd2 sl sl2 e r) ⟨ho, ho2, he, hr, h⟩
/-- two tuples by the type's own order -/
theorem oneLt_tups {prog : Program} {w : World} {A : Around} {E : Value → Shared → Prop} {s : Shared} {xs ys : List PyData} {a b : Value} {as bs : List Addr} {Q : Bool → Shared → Prop} (ra : Reads s.heap a (.tuple xs) as) (rb : Reads s.heap b (.tuple ys) bs)
    (h : alike (.tuple xs) (.tuple ys) = true) (hu : A.units + min (PyData.tuple xs).depth (PyData.tuple ys).depth < cLine) (hq : Q (dataLt (.tuple xs) (.tuple ys)) s) : wpAny (model prog w) A (oneLt' true a b) Q E s := by
  have al : alikeAll xs ys = true := by simpa [alike] using h
  cases ra with
  | @tuple l o vs n _ as1 g1 g2 g3 g4 =>
    cases rb with
    | @tuple l' o' us n' _ bs1 k1 k2 k3 k4 =>
      have z1 : vs.size = xs.length := by simpa using ReadsAll.length _ _ _ g4
      have z2 : us.size = ys.length := by simpa using ReadsAll.length _ _ _ k4
      rw [dataLt_tuple, ← firstLt_toks xs ys al, ← z1, ← z2] at hq
      rw [oneLt'_eq]
      simp only [if_true]
      refine wpAny_bind (wpAny_cRoomFor (room_here hu) (wpAny_bind ?_))
      refine (wpAny_callSpecialIfBound?_slot (T := "tuple") ⟨_, g1, g2⟩ F.slot_tuple_lt
        (call_tuple_lt3 (e := pairEq xs ys) (r := fun j => dataLt (xs.getD j .none) (ys.getD j .none)) ⟨_, g1, g2, _, g3⟩ ⟨_, k1, k2, _, k3⟩ (fun j j1 j2 => ?_) (fun j j1 j2 hj => ?_) ?_))
      · have q := eqAt_alikeAll xs ys A.in1 s vs.toList us.toList _ _ g4 k4 al (room_in hu) j (by simpa using j1) (by simpa using j2)
        simp only [Array.getElem_toList] at q
        exact q
      · have q := rcLt_alikeAll xs ys A.in1 s vs.toList us.toList _ _ g4 k4 al (room_in hu) j (by simpa using j1) (by simpa using j2) hj
        simp only [Array.getElem_toList] at q
        exact q
      · exact wpAny_truthy_bool hq
/-- the first item, where there is one -/
def firstsOf (ds : List PyData) : List Bool := ds.map fun d => match d with | .tuple (_ :: _) => true | _ => false
theorem firsts_tups {M : Model} {A : Around} {E : Value → Shared → Prop} {s : Shared} : ∀ {vs : List Value} {ds : List PyData} {Q : List (Option Value) → Shared → Prop}, EachIs (fun v d => ∃ as, Reads s.heap v d as) vs ds → (∀ d ∈ ds, ∃ xs, d = .tuple xs) →
    (∀ fs : List (Option Value), fs.map Option.isSome = firstsOf ds → Q fs s) → wpAny M A (vs.mapM firstOfTuple') Q E s
  | [], _, Q, e, _, h => by
    cases e
    rw [List.mapM_nil]
    exact wpAny_pure (h [] rfl)
  | v :: vs, _, Q, e, ht, h => by
    cases e with
    | @cons _ d _ ds r t =>
      obtain ⟨as, r⟩ := r
      obtain ⟨xs, rfl⟩ := ht d List.mem_cons_self
      rw [List.mapM_cons]
      refine wpAny_bind ?_
      cases r with
      | @tuple a o its n _ _ ho hc hd hr =>
        rw [kas_first_eq]
        have kind : Looks M s.heap (typeOf (.ref a)) o.cls := (Looks.ld ho).andThen .now
        refine wpAny_bind (kind.here ?_)
        rw [hc]
        rw [if_neg (by simp)]
        refine wpAny_bind (listItems_at ho hd ?_)
        refine wpAny_pure ?_
        refine wpAny_bind (firsts_tups (Q := fun bs s' => wpAny M A (pure (its[0]? :: bs)) Q E s') t (fun d hd => ht d (List.mem_cons_of_mem _ hd)) fun fs hf => wpAny_pure (h _ ?_))
        have hl := ReadsAll.length _ _ _ hr
        rw [List.map_cons, hf]
        cases xs with
        | nil =>
          have : its[0]? = none := by
            rw [← Array.getElem?_toList]
            exact List.getElem?_eq_none (by simpa using hl)
          rw [this]
          rfl
        | cons y ys =>
          have hl : its.toList.length = ys.length + 1 := by simpa using hl
          have : its[0]?.isSome = true := by
            rw [← Array.getElem?_toList, List.getElem?_eq_getElem (by omega)]
            rfl
          rw [this]
          rfl
/-- tuples, some of them empty -/
theorem SortsAt.tups {prog : Program} {w : World} {A : Around} {s : Shared} {vs : List Value} {ds : List PyData} (e : EachIs (fun v d => ∃ as, Reads s.heap v d as) vs ds) (al : AllAlike ds) (ht : ∀ d ∈ ds, ∃ xs, d = .tuple xs) (he : .tuple [] ∈ ds)
    (hu : ∀ d, d ∈ ds → A.units + d.depth < cLine) : SortsAt prog w A s (dataKind s.heap ds) vs := by
  have room : ∀ {d d' : PyData}, d ∈ ds → A.units + min d.depth d'.depth < cLine := fun {d d'} hd => by
    have h1 := hu d hd
    have h2 := Nat.min_le_left d.depth d'.depth
    omega
  have tys : ∀ v ∈ vs, Looks (model prog w) s.heap (typeOf v) (Value.type "tuple") := fun v hv => by
    obtain ⟨dv, mem, bs, rd⟩ := e.left v hv
    obtain ⟨ys, rfl⟩ := ht dv mem
    exact looks_reads rd
  have gen : H.LtAt prog w A s (dataKind s.heap ds) general' := by
    intro E x y a b Q ha hb hq
    obtain ⟨d, ax, hd, ra, rfl⟩ := dataKind_inv ha
    obtain ⟨d', ay, hd', rb, rfl⟩ := dataKind_inv hb
    obtain ⟨xs, rfl⟩ := ht d hd
    rw [keyLt_gen]
    exact oneLt_alike (fun z => nomatch z) ra rb (al _ hd _ hd') (fun z => nomatch z) (room hd) hq
  have one : H.LtAt prog w A s (dataKind s.heap ds) oneType' := by
    intro E x y a b Q ha hb hq
    obtain ⟨d, ax, hd, ra, rfl⟩ := dataKind_inv ha
    obtain ⟨d', ay, hd', rb, rfl⟩ := dataKind_inv hb
    obtain ⟨xs, rfl⟩ := ht d hd
    obtain ⟨ys, rfl⟩ := ht d' hd'
    rw [keyLt'_oneType]
    exact oneLt_tups ra rb (al _ hd _ hd') (room hd) hq
  have notAll : ∀ fs : List (Option Value), fs.map Option.isSome = firstsOf ds → (fs.toArray.all fun x => x.isSome) = false := fun fs hf => by
    rw [List.all_toArray]
    have h1 : (fs.map Option.isSome).all id = false := by
      rw [hf]
      unfold firstsOf
      rw [List.all_map]
      exact List.all_eq_false.mpr ⟨_, he, by simp⟩
    rw [List.all_map] at h1
    exact h1
  refine ⟨fun v hv => ?_, ?_⟩
  · obtain ⟨dv, mem, bs, rd⟩ := e.left v hv
    exact ⟨_, dataKind_some al mem rd⟩
  · cases hd0 : (firstsOf ds)[0]? with
    | none =>
      have : ds = [] := by
        cases ds with
        | nil => rfl
        | cons d r => simp [firstsOf] at hd0
      subst this
      cases he
    | some b0 =>
      cases b0 with
      | true =>
        refine ⟨general', gen, fun h2 E Q hq => ?_⟩
        rw [keyKind'_eq]
        rw [List.mapM_toArray, map_eq_pure_bind]
        refine wpAny_bind (wpAny_bind (firsts_tups e ht fun fs hf => wpAny_pure ?_))
        rw [if_neg (by rw [notAll fs hf]; exact Bool.false_ne_true)]
        have h0 : ((fs.toArray[0]?).bind id).isSome = true := by
          have q : (fs.map Option.isSome)[0]? = some true := by rw [hf]; exact hd0
          cases fs with
          | nil => simp at q
          | cons f r =>
            have q' : f.isSome = true := by simpa using q
            simpa using q'
        rw [if_pos h0]
        exact wpAny_pure hq
      | false =>
        refine ⟨oneType', one, fun h2 E Q hq => ?_⟩
        rw [keyKind'_eq]
        rw [List.mapM_toArray, map_eq_pure_bind]
        refine wpAny_bind (wpAny_bind (firsts_tups e ht fun fs hf => wpAny_pure ?_))
        rw [if_neg (by rw [notAll fs hf]; exact Bool.false_ne_true)]
        have h0 : ¬ ((fs.toArray[0]?).bind id).isSome = true := by
          have q : (fs.map Option.isSome)[0]? = some false := by rw [hf]; exact hd0
          cases fs with
          | nil => simp at q
          | cons f r =>
            have q' : f.isSome = false := by simpa using q
            simpa using q'
        rw [if_neg h0, oneTypeOnly'_eq, List.mapM_toArray, map_eq_pure_bind]
        refine wpAny_bind (wpAny_bind (wpAny_bind (kas_mapM (r := Value.type "tuple") _ (fun v hv Q' hq => (tys v hv).here hq) (wpAny_pure ?_))))
        have hall : ((vs.map fun _ => Value.type "tuple").toArray.all fun x => x == Value.type "tuple") = true := by
          rw [List.all_toArray]
          refine List.all_eq_true.mpr fun z hz => ?_
          obtain ⟨_, _, rfl⟩ := List.mem_map.mp hz
          exact beq_self_eq_true _
        have hz : (vs.map fun _ => Value.type "tuple").toArray[0]? = some (Value.type "tuple") := by
          cases vs with
          | nil => simp at h2
          | cons v r => simp
        rw [hz]
        simp only [hall, if_true]
        refine wpAny_pure ?_
        exact wpAny_pure hq
/-- what may be sorted -/
def Sorts (ds : List PyData) : Prop := Sortable ds ∨ ((∀ d ∈ ds, ∃ xs, d = .tuple xs) ∧ .tuple [] ∈ ds)
theorem SortsAt.any {prog : Program} {w : World} {A : Around} {s : Shared} {vs : List Value} {ds : List PyData} (e : EachIs (fun v d => ∃ as, Reads s.heap v d as) vs ds) (al : AllAlike ds) (hs : Sorts ds)
    (hu : ∀ d, d ∈ ds → A.units + d.depth < cLine) : SortsAt prog w A s (dataKind s.heap ds) vs := hs.elim (fun h => SortsAt.data e al h hu) (fun h => SortsAt.tups e al h.1 h.2 hu)
theorem sorted_any {prog : Program} {w : World} {A : Around} {E : Value → Shared → Prop} {s : Shared} {β : Type} {vs : List Value} {bs : List β} {enc : β → PyData} {R : Value → β → Prop} {l : Addr} {Q : Value → Shared → Prop}
    (hl : s.heap.IsList l vs.toArray) (e : EachIs R vs bs) (er : EachIs (fun v b => ∃ as, Reads s.heap v (enc b) as) vs bs) (al : AllAlike (bs.map enc)) (hk : Sorts (bs.map enc)) (hL : bs.length ≤ sizeLine)
    (hu : ∀ z, z ∈ bs → A.units + 2 + (enc z).depth < cLine)
    (h : ∀ res, res.length = bs.length → EachIs R res (bs.mergeSort (dataLe false enc)) → Q (.ref (s.heap.objs.size + 1)) { s with heap := sortedAll s.heap vs (List.toArray res) }) : wpAny (model prog w) A (call (.builtin "sorted") [.ref l]) Q E s := by
  generalize hg : sortingHeap (copyHeap s.heap vs) (s.heap.objs.size + 1) vs = hh
  have er2 : EachIs (fun v b => ∃ as, Reads hh v (enc b) as) vs bs := er.mono fun _ _ ⟨as, r⟩ => ⟨as, PyProof.Rows.Reads.keeps (fun _ _ q => by rw [← hg]; exact sorting_copy_old q) r⟩
  have S : SortsAt prog w A.in1.in1 { s with heap := hh } (dataKind hh (bs.map enc)) vs :=
    SortsAt.any (s := { s with heap := hh }) (each_map (R := fun v d => ∃ as, Reads hh v d as) enc er2) al hk (bound_map (A := A.in1.in1) hu)
  subst hg
  exact sorted_vals hl S (by rw [e.length]; exact hL) (h _ (by rw [sortVals_length false rfl]; exact e.length) (sortVals_data false e er2 al))
end PySem.W

namespace L3
open PySem PySem.Spec L2
/-- a list that may be sorted -/
def sorts (ds : List D3) : Prop := D3.oks ds = true ∧ PySem.W.AllAlike (ds.map pd) ∧ PySem.W.Sorts (ds.map pd) ∧ (∀ d ∈ ds, (pd d).depth ≤ 60) ∧ ds.length ≤ 100000
def dle (a b : D3) : Bool := PySem.W.dataLe false pd a b
def sort3 (a : R3) (Q : R3 → Prop) : Prop := ∃ ds, a.items = some ds ∧ sorts ds ∧ Q (.ls (ds.mergeSort dle))
def rSort3 (g : Gx) : List V → Hp → VK → Prop := fun xs H Q => ∃ F ds p vs, xs = [.ref p] ∧ Same F H ∧ SqL g.K H p vs ∧ Ims g F ds vs ∧ sorts ds ∧ ∀ l us, H l = none → Ims g F (ds.mergeSort dle) us → Q (.ref l) (upd H l (.lst us))
section
variable {X : Cx} {C : Addr}
theorem ims_each {F : Hp} : ∀ {ds : List D3} {vs : List V} {us : List Value}, Ims (gx X C) F ds vs → Vals vs us → PySem.W.EachIs (fun u d => ∃ v, RelV v u ∧ Im (gx X C) F d v) us ds
  | [], vs, us, h, r => by
    unfold Ims at h
    subst h
    cases r
    exact .nil
  | d :: ds, vs, us, h, r => by
    obtain ⟨v, vr, rfl, h1, h2⟩ := Ims.uncons h
    cases r with
    | cons r rr => exact .cons ⟨v, r, h1⟩ (ims_each h2 rr)
theorem each_ims {F : Hp} : ∀ {us : List Value} {ds : List D3}, PySem.W.EachIs (fun u d => ∃ v, RelV v u ∧ Im (gx X C) F d v) us ds → ∃ vs, Vals vs us ∧ Ims (gx X C) F ds vs
  | _, _, .nil => ⟨[], .nil, Ims.nil⟩
  | _, _, .cons ⟨v, r, h⟩ t => by
    obtain ⟨vs, h1, h2⟩ := each_ims t
    exact ⟨v :: vs, .cons r h1, Ims.cons h h2⟩
theorem oks_mem : ∀ {ds : List D3} {d : D3}, D3.oks ds = true → d ∈ ds → d.ok = true
  | _ :: _, _, h, m => by
    unfold D3.oks at h
    rw [Bool.and_eq_true] at h
    rcases List.mem_cons.mp m with rfl | m
    · exact h.1
    · exact oks_mem h.2 m
theorem cr_sort3 (hu : X.A.units + 64 < cLine) : CallR X (.builtin "sorted") (rSort3 (gx X C)) := by
  intro pins s σ H xs us Q
  intro I r h
  obtain ⟨F, ds, p, vs, rfl, e, hp, hi, ⟨o1, o2, o3, o4, o5⟩, q⟩ := h
  obtain ⟨u, rfl, rx⟩ := r.one
  have rx : u = Value.ref p := rx
  subst rx
  obtain ⟨its, rv, pl, _⟩ := I.list hp
  have ea := ims_each hi rv
  have er : PySem.W.EachIs (fun v d => ∃ as, PySem.Reads s.heap v (pd d) as) its ds := (PySem.W.each_mem ea).mono fun u d ⟨⟨v, r, im⟩, m⟩ => Dp.reads I (pd d) v u (Im.dp (g := gx X C) e d v (oks_mem o1 m) im) r
  refine PySem.W.sorted_any (vs := its) pl.isList ea er o2 o3 (line_of o5) (fun d m => by have := o4 d m; omega) fun out hl eo => ?_
  obtain ⟨ws, w1, w2⟩ := each_ims eo
  obtain ⟨c, hc⟩ := PyProof.Rows.sortedAll_at s.heap its out.toArray
  have hws : ws.length ≤ sizeLine := by rw [w1.length, hl]; exact line_of o5
  refine ⟨.ref (s.heap.objs.size + 1), _, I.laid (a := s.heap.objs.size + 1) (t' := s.toks) (o := .lst ws) (fun b o e => PyProof.Rows.sortedAll_old e) (Nat.le_succ _) ⟨hws, out, c, w1, hc⟩, rfl, q _ ws (I.hok.fresh (Nat.le_succ _)) w2⟩
end
theorem cl_sort {g : Gx} : CL g (rSort3 g) sort3 := by
  intro F ρ σ H a x Q3 Q fr ra ho k
  obtain ⟨ds, hi, hs, q⟩ := ho
  obtain ⟨p, vs, rfl, h1, h2⟩ := items_at fr.ex ra hi
  exact ⟨F, ds, p, vs, rfl, fr.ex, h1, h2, hs, fun l us hl hu => k _ _ _ _ q (Stp.newO fr hl) (Res.newL fr hl hu)⟩
end L3

set_option Elab.async false
set_option autoImplicit false
set_option linter.all false
set_option maxRecDepth 100000
/-! L3, part e: subscripts, slices, attributes, pops, isinstance, chains. -/
namespace L3
open PySem PySem.Spec L2

/-! ### subscripts -/
def ix3 (a b : R3) (Q : R3 → Prop) : Prop :=
  match a, b with
  | .im (.tup ds), .im (.int i) => ∃ d, atI ds i = some d ∧ Q (.im d)
  | .im (.lst ds), .im (.int i) => ∃ d, atI ds i = some d ∧ Q (.im d)
  | .ls ds, .im (.int i) => ∃ d, atI ds i = some d ∧ Q (.im d)
  | _, _ => False
theorem ims_atI {g : Gx} {F : Hp} {ds : List D3} {vs : List V} {i : Int} {d : D3} (h : Ims g F ds vs) (e : atI ds i = some d) : ∃ v, atI vs i = some v ∧ Im g F d v := by
  unfold atI at e ⊢
  rw [← h.length]
  cases hj : ixN ds.length i with
  | none =>
    rw [hj] at e
    cases e
  | some j =>
    rw [hj] at e
    exact h.get (i := j) e
def rIx2 (K : PySem.W.Frag) : R2 := fun x y H Q => rIxL K x y H Q ∨ rIxT K x y H Q
theorem ix_2 {X : Cx} : IxR X (rIx2 X.K) := ix_list.or ix_tup
theorem opl_ix {g : Gx} : OpL g (rIx2 g.K) ix3 := by
  intro F ρ σ H a b x y Q3 Q fr ra rb ho k
  unfold ix3 at ho
  split at ho
  · rename_i ds i
    obtain ⟨d, hd, q⟩ := ho
    obtain ⟨p, vs, rfl, h1, h2⟩ := rep_tup ra
    obtain ⟨v, h3, h4⟩ := ims_atI h2 hd
    exact .inr ⟨p, vs, i, v, rfl, rep_int rb, SqT.of (fr.ex _ _ h1), h3, k _ F H _ q (Stp.refl fr) (Res.im h4)⟩
  · rename_i ds i
    obtain ⟨d, hd, q⟩ := ho
    obtain ⟨p, vs, rfl, h1, h2⟩ := items_at fr.ex ra rfl
    obtain ⟨v, h3, h4⟩ := ims_atI h2 hd
    exact .inl ⟨p, vs, i, v, rfl, rep_int rb, h1, h3, k _ F H _ q (Stp.refl fr) (Res.im h4)⟩
  · rename_i ds i
    obtain ⟨d, hd, q⟩ := ho
    obtain ⟨p, vs, rfl, h1, h2⟩ := items_at fr.ex ra rfl
    obtain ⟨v, h3, h4⟩ := ims_atI h2 hd
    exact .inl ⟨p, vs, i, v, rfl, rep_int rb, h1, h3, k _ F H _ q (Stp.refl fr) (Res.im h4)⟩
  · exact ho.elim
theorem atI0 {α : Type} {xs : List α} {j : Nat} {v : α} (h : xs[j]? = some v) : atI xs (j : Int) = some v := atI_nat h
/-! ### slices of tuples -/
def cut3 (ds : List D3) (lo hi : Option Int) : List D3 := (ds.drop (HT.sIx ds.length 0 lo)).take (HT.sIx ds.length ds.length hi - HT.sIx ds.length 0 lo)
def Cst (to : TO) (o : Option Int) : Prop := ∀ (σ : L2.St) (H : Hp) (Q : Option Int → Hp → Prop), Q o H → to σ H Q
theorem cst_none : Cst tNoPart none := fun _ _ _ q => q
theorem cst_int {i : Int} : Cst (tPart (tC (.int i))) (some i) := fun _ _ _ q => ⟨i, rfl, q⟩
theorem cst_neg {i : Int} : Cst (tPart (tUn (rU fun i => .int (-i)) (tC (.int i)))) (some (-i)) := fun _ _ _ q => ⟨i, rfl, -i, rfl, q⟩
def sl3 (lo hi : Option Int) (t : TE3) : TE3 := fun ρ Q => t ρ fun r ρ1 => ∃ ds, r = .im (.tup ds) ∧ Q (.im (.tup (cut3 ds lo hi))) ρ1
theorem low_sl {g : Gx} {σ : L2.St} {H : Hp} {Q : VK} {t : TE3} {tl th : TO} {lo hi : Option Int} (hl : Cst tl lo) (hh : Cst th hi) (h : low g (sl3 lo hi t) σ H Q) : tSl (rSlA g.K) (low g t) tl th σ H Q := by
  obtain ⟨F, ρ, Q3, fr, q, k⟩ := h
  refine ⟨F, ρ, _, fr, q, fun r ρ1 F1 H1 v h1 s1 r1 => ?_⟩
  obtain ⟨ds, rfl, h1⟩ := h1
  refine hl σ H1 _ (hh σ H1 _ ?_)
  obtain ⟨p, vs, rfl, h2, h3⟩ := rep_tup r1.rep
  have el := h3.length
  refine ⟨p, vs, rfl, SqT.of (s1.fr.ex _ _ h2), fun w => ?_, fun w p2 hp2 => ?_⟩
  · have e : cut3 ds lo hi = ds := by
      unfold cut3
      rw [el, w.1, w.2, List.drop_zero, Nat.sub_zero, ← el, List.take_length]
    rw [e] at h1
    exact k _ _ _ _ _ h1 s1 r1
  · have e : Ims g F1 (cut3 ds lo hi) (cutV vs lo hi) := by
      unfold cut3 cutV
      rw [el]
      exact (h3.drop _).take _
    exact k _ _ _ _ _ h1 (s1.trans (Stp.newF s1.fr hp2)) (Res.newT (s1.fr.ex.free hp2) e)
section
variable {X : Cx} {C : Addr} {a b : Expr} {ta tb t : TE3} {pos p2 : Pos} {lo hi : Option Expr} {tl th : TO} {l h : Option Int}
theorem x_ix (ha : XE X C a ta) (hb : XE X C b tb) (hs : PlainIx b := by exact fun _ _ => rfl) : XE X C (.Subscript a b pos) (op2 ix3 ta tb) := PE.of (pe_ix ix_2 ha hb hs) fun _ _ _ => low_op opl_ix
theorem x_sl (ha : XE X C a t) (pl : PO X lo tl) (cl : Cst tl l) (ph : PO X hi th) (ch : Cst th h) : XE X C (.Subscript a (.Slice lo hi none p2) pos) (sl3 l h t) := PE.of (pe_slice sl_tupA ha pl ph) fun _ _ _ => low_sl cl ch
end
/-! ### the attributes of a web -/
def webq (sel : Int → D3 → List D3 → List D3 → D3) (a : R3) (Q : R3 → Prop) : Prop :=
  match a with
  | .im (.web n b al ll) => Q (.im (sel n b al ll))
  | _ => False
def fld3 (sel : Int → D3 → List D3 → List D3 → D3) (t : TE3) : TE3 := fun ρ Q => t ρ fun a ρ1 => webq sel a fun c => Q c ρ1
theorem n1 : ¬ (("many" : Str) = "befores") := by decide +kernel
theorem n2 : ¬ (("many" : Str) = "ahead") := by decide +kernel
theorem n3 : ¬ (("many" : Str) = "later") := by decide +kernel
theorem n4 : ¬ (("befores" : Str) = "ahead") := by decide +kernel
theorem n5 : ¬ (("befores" : Str) = "later") := by decide +kernel
theorem n6 : ¬ (("ahead" : Str) = "later") := by decide +kernel
theorem webF_many (n : Int) (vb : V) (a l : Addr) : (webF n vb a l).lookup ("many" : Str) = some (.int n) := by
  unfold webF
  rw [lookup_putF, if_neg n3, lookup_putF, if_neg n2, lookup_putF, if_neg n1, lookup_putF, if_pos rfl]
theorem webF_bef (n : Int) (vb : V) (a l : Addr) : (webF n vb a l).lookup ("befores" : Str) = some vb := by
  unfold webF
  rw [lookup_putF, if_neg n5, lookup_putF, if_neg n4, lookup_putF, if_pos rfl]
theorem webF_ahead (n : Int) (vb : V) (a l : Addr) : (webF n vb a l).lookup ("ahead" : Str) = some (.ref a) := by
  unfold webF
  rw [lookup_putF, if_neg n6, lookup_putF, if_pos rfl]
theorem webF_later (n : Int) (vb : V) (a l : Addr) : (webF n vb a l).lookup ("later" : Str) = some (.ref l) := by
  unfold webF
  rw [lookup_putF, if_pos rfl]
/-- what is asked of the class -/
structure WebC (K : PySem.W.Frag) (C : Addr) : Prop where
  cl : Cls K C
  nM : NoAttr K C "many"
  nB : NoAttr K C "befores"
  nA : NoAttr K C "ahead"
  nL : NoAttr K C "later"
section
variable {X : Cx} {C : Addr} {a : Expr} {t : TE3} {pos : Pos}
theorem low_fld {g : Gx} {σ : L2.St} {H : Hp} {Q : VK} {f : Str} {sel : Int → D3 → List D3 → List D3 → D3} (hc : Cls g.K g.C) (hn : NoAttr g.K g.C f)
    (hl : ∀ n b al ll (F : Hp) (p dx : Addr) vb a l va vl, F p = some (.ins g.C dx (webF n vb a l)) → Im g F b vb → SqL g.K F a va → Ims g F al va → SqL g.K F l vl → Ims g F ll vl → ∃ v, (webF n vb a l).lookup f = some v ∧ Im g F (sel n b al ll) v)
    (h : low g (fld3 sel t) σ H Q) : tFld g.K (low g t) f σ H Q := by
  obtain ⟨F, ρ, Q3, fr, q, k⟩ := h
  refine ⟨F, ρ, _, fr, q, fun r ρ1 F1 H1 x h1 s1 r1 => ?_⟩
  unfold webq at h1
  split at h1
  · rename_i n b al ll
    have r := r1.rep
    unfold RepR Im at r
    obtain ⟨p, dx, vb, a, l, va, vl, rfl, z1, z2, z3, z4, z5, z6⟩ := r
    obtain ⟨v, y1, y2⟩ := hl n b al ll F1 p dx vb a l va vl z1 z2 z3 z4 z5 z6
    exact ⟨p, g.C, dx, _, v, rfl, s1.fr.ex _ _ z1, hc, hn, y1, k _ _ _ _ _ h1 s1 (Res.im y2)⟩
  · exact h1.elim
theorem x_many (W : WebC X.K C) (ha : XE X C a t) (hb : attributeBase a "many" X.env (eval a X.env) = eval a X.env := by rfl) : XE X C (.Attribute a "many" pos) (fld3 (fun n _ _ _ => .int n) t) :=
  PE.of (pe_fld ha hb) fun _ _ _ => low_fld (g := gx X C) W.cl W.nM fun n b al ll F p dx vb a l va vl _ _ _ _ _ _ => ⟨_, webF_many _ _ _ _, im_int _ _⟩
theorem x_bef (W : WebC X.K C) (ha : XE X C a t) (hb : attributeBase a "befores" X.env (eval a X.env) = eval a X.env := by rfl) : XE X C (.Attribute a "befores" pos) (fld3 (fun _ b _ _ => b) t) :=
  PE.of (pe_fld ha hb) fun _ _ _ => low_fld (g := gx X C) W.cl W.nB fun n b al ll F p dx vb a l va vl _ h _ _ _ _ => ⟨_, webF_bef _ _ _ _, h⟩
theorem x_ahead (W : WebC X.K C) (ha : XE X C a t) (hb : attributeBase a "ahead" X.env (eval a X.env) = eval a X.env := by rfl) : XE X C (.Attribute a "ahead" pos) (fld3 (fun _ _ al _ => .lst al) t) :=
  PE.of (pe_fld ha hb) fun _ _ _ => low_fld (g := gx X C) W.cl W.nA fun n b al ll F p dx vb a l va vl _ _ h h' _ _ => ⟨_, webF_ahead _ _ _ _, by unfold Im; exact ⟨a, va, rfl, h, h'⟩⟩
theorem x_later (W : WebC X.K C) (ha : XE X C a t) (hb : attributeBase a "later" X.env (eval a X.env) = eval a X.env := by rfl) : XE X C (.Attribute a "later" pos) (fld3 (fun _ _ _ ll => .lst ll) t) :=
  PE.of (pe_fld ha hb) fun _ _ _ => low_fld (g := gx X C) W.cl W.nL fun n b al ll F p dx vb a l va vl _ _ _ _ h h' => ⟨_, webF_later _ _ _ _, by unfold Im; exact ⟨l, vl, rfl, h, h'⟩⟩
end
/-! ### least <= x <= most -/
def chain3 (ta tb tc : TE3) : TE3 := fun ρ Q => ta ρ fun a ρ1 => tb ρ1 fun b ρ2 => ∃ i j, a = .im (.int i) ∧ b = .im (.int j) ∧
  if i ≤ j then tc ρ2 fun c ρ3 => ∃ k, c = .im (.int k) ∧ Q (.im (.bl (decide (j ≤ k)))) ρ3 else Q (.im (.bl false)) ρ2
theorem low_chain {g : Gx} {σ : L2.St} {H : Hp} {Q : VK} {ta tb tc : TE3} (h : low g (chain3 ta tb tc) σ H Q) : tChain (rI0 fun i j => .bl (decide (i ≤ j))) (rI0 fun i j => .bl (decide (i ≤ j))) (low g ta) (low g tb) (low g tc) σ H Q := by
  obtain ⟨F, ρ, Q3, fr, q, k⟩ := h
  refine ⟨F, ρ, _, fr, q, fun a ρ1 F1 H1 x h1 s1 r1 => ⟨F1, ρ1, _, s1.fr, h1, fun b ρ2 F2 H2 y h2 s2 r2 => ?_⟩⟩
  obtain ⟨i, j, rfl, rfl, h2⟩ := h2
  refine ⟨i, j, rep_int r1.rep, rep_int r2.rep, decide (i ≤ j), rfl, ?_⟩
  by_cases hij : i ≤ j
  · rw [if_pos hij] at h2
    rw [if_pos (decide_eq_true hij)]
    refine ⟨F2, ρ2, _, s2.fr, h2, fun c ρ3 F3 H3 z h3 s3 r3 => ?_⟩
    obtain ⟨m, rfl, h3⟩ := h3
    exact ⟨j, m, rep_int r2.rep, rep_int r3.rep, k _ _ _ _ _ h3 ((s1.trans s2).trans s3) (Res.im (im_bl _ _))⟩
  · rw [if_neg hij] at h2
    rw [if_neg (by rw [decide_eq_false hij]; exact Bool.false_ne_true)]
    exact k _ _ _ _ _ h2 (s1.trans s2) (Res.im (im_bl _ _))
theorem x_chain {X : Cx} {C : Addr} {a b c : Expr} {ta tb tc : TE3} {pos : Pos} (ha : XE X C a ta) (hb : XE X C b tb) (hc : XE X C c tc) (hm : lastMarks [.LtE, .LtE] [b, c] = false := by with_unfolding_all rfl) : XE X C (.Compare a [.LtE, .LtE] [b, c] pos) (chain3 ta tb tc) :=
  PE.of (pe_chain op_le op_le ha hb hc hm) fun _ _ _ => low_chain
/-! ### isinstance -/
inductive ClsK where
  | int | bool | str | tup | web
def isi3 (c : ClsK) (a : R3) (Q : R3 → Prop) : Prop :=
  match c, a with
  | .tup, .im (.tup _) => Q (.im (.bl true))
  | .str, .im (.str _) => Q (.im (.bl true))
  | .int, .im (.int _) => Q (.im (.bl true))
  | .bool, .im (.int _) => Q (.im (.bl false))
  | .web, .im (.web _ _ _ _) => Q (.im (.bl true))
  | _, _ => False
def isiT (c : ClsK) (t : TE3) : TE3 := fun ρ Q => t ρ fun a ρ1 => isi3 c a fun r => Q r ρ1
theorem isi_tup {a : R3} {Q : R3 → Prop} (h : isi3 .tup a Q) : ∃ ds, a = .im (.tup ds) ∧ Q (.im (.bl true)) := by
  cases a with
  | im d => cases d with
    | tup ds => exact ⟨ds, rfl, h⟩
    | _ => exact False.elim h
  | _ => exact False.elim h
theorem isi_str {a : R3} {Q : R3 → Prop} (h : isi3 .str a Q) : ∃ x, a = .im (.str x) ∧ Q (.im (.bl true)) := by
  cases a with
  | im d => cases d with
    | str x => exact ⟨x, rfl, h⟩
    | _ => exact False.elim h
  | _ => exact False.elim h
theorem isi_int {a : R3} {Q : R3 → Prop} (h : isi3 .int a Q) : ∃ x, a = .im (.int x) ∧ Q (.im (.bl true)) := by
  cases a with
  | im d => cases d with
    | int x => exact ⟨x, rfl, h⟩
    | _ => exact False.elim h
  | _ => exact False.elim h
theorem isi_bool {a : R3} {Q : R3 → Prop} (h : isi3 .bool a Q) : ∃ x, a = .im (.int x) ∧ Q (.im (.bl false)) := by
  cases a with
  | im d => cases d with
    | int x => exact ⟨x, rfl, h⟩
    | _ => exact False.elim h
  | _ => exact False.elim h
theorem isi_web {a : R3} {Q : R3 → Prop} (h : isi3 .web a Q) : ∃ n b al ll, a = .im (.web n b al ll) ∧ Q (.im (.bl true)) := by
  cases a with
  | im d => cases d with
    | web n b al ll => exact ⟨n, b, al, ll, rfl, h⟩
    | _ => exact False.elim h
  | _ => exact False.elim h
/-- what a class's instances must show for isinstance -/
structure WebI (K : PySem.W.Frag) (C W : Addr) : Prop where
  cl : Cls K C
  (ha : PySem.W.findIn K (.ref C) "__class__" = some (some (.builtin "object.__class__"))) (hn : PySem.W.specialIn K (.builtin "object.__class__") "__get__" = some (some (.builtin "getset_descriptor.__get__"))) (htk : PySem.W.takesIn K (.builtin "object.__class__") = some true) (hm : PySem.W.mroIn K C (.type "object") = some true)
  is : PySem.W.kitOne K (.ref C) (.ref W) = some true
/-- the class as a value, its kind -/
def ClsAt (g : Gx) (W : Addr) : ClsK → V → Value → Prop
  | .int, v, u => v = .ty "int" ∧ u = .type "int"
  | .bool, v, u => v = .ty "bool" ∧ u = .type "bool"
  | .str, v, u => v = .ty "str" ∧ u = .type "str"
  | .tup, v, u => v = .ty "tuple" ∧ u = .type "tuple"
  | .web, v, u => v = .ref W ∧ u = .ref W ∧ WebI g.K g.C W
theorem low_isi {g : Gx} {σ : L2.St} {H : Hp} {Q : VK} {t : TE3} {W : Addr} {c : ClsK} {v : V} {u : Value} (hc : ClsAt g W c v u) (h : low g (isiT c t) σ H Q) : tCB (rIsi g.K) (tCons (low g t) (tCons (tC v) tNil)) σ H Q := by
  obtain ⟨F, ρ, Q3, fr, q, k⟩ := h
  refine ⟨F, ρ, _, fr, q, fun a ρ1 F1 H1 x h1 s1 r1 => ?_⟩
  have fin : ∀ {b : Bool}, Q3 (.im (.bl b)) ρ1 → Q (.bl b) H1 := fun {b} hq => k _ _ _ _ _ hq s1 (Res.im (im_bl _ _))
  cases c with
  | tup =>
    obtain ⟨rfl, rfl⟩ := hc
    obtain ⟨ds, rfl, h1⟩ := isi_tup h1
    obtain ⟨p, vs, rfl, h2, _⟩ := rep_tup r1.rep
    exact ⟨_, _, .type "tuple", .type "tuple", true, rfl, .ty _, .base (.tup (s1.fr.ex _ _ h2)), kit_ty (by decide +kernel), fin h1⟩
  | str =>
    obtain ⟨rfl, rfl⟩ := hc
    obtain ⟨z, rfl, h1⟩ := isi_str h1
    have e : x = .str z := by
      have := r1.rep
      unfold RepR Im at this
      exact this
    subst e
    exact ⟨_, _, .type "str", .type "str", true, rfl, .ty _, .base (.str _), kit_ty (by decide +kernel), fin h1⟩
  | int =>
    obtain ⟨rfl, rfl⟩ := hc
    obtain ⟨z, rfl, h1⟩ := isi_int h1
    have e := rep_int r1.rep
    subst e
    exact ⟨_, _, .type "int", .type "int", true, rfl, .ty _, .base (.int _), kit_ty (by decide +kernel), fin h1⟩
  | bool =>
    obtain ⟨rfl, rfl⟩ := hc
    obtain ⟨z, rfl, h1⟩ := isi_bool h1
    have e := rep_int r1.rep
    subst e
    exact ⟨_, _, .type "int", .type "bool", false, rfl, .ty _, .base (.int _), kit_ty (by decide +kernel), fin h1⟩
  | web =>
    obtain ⟨rfl, rfl, wi⟩ := hc
    obtain ⟨n, b, al, ll, rfl, h1⟩ := isi_web h1
    have r := r1.rep
    unfold RepR Im at r
    obtain ⟨p, dx, vb, a, l, va, vl, rfl, z1, _⟩ := r
    exact ⟨_, _, .ref g.C, .ref W, true, rfl, .own _, .base (.ins (s1.fr.ex _ _ z1) wi.cl wi.ha wi.hn wi.htk wi.hm), wi.is, fin h1⟩
section
variable {X : Cx} {C W : Addr} {a b : Expr} {t : TE3} {pos p : Pos} {c : ClsK} {v : V} {u : Value}
theorem x_isi (hc : ClsAt (gx X C) W c v u) (hg : Gl X "isinstance") (hm : X.mg "isinstance" = none) (ha : XE X C a t) (hb : PE X b (tC v)) (hs : starEach [a, b] X.env = (false, eval a X.env) :: starEach [b] X.env := by rfl) (hs2 : starEach [b] X.env = (false, eval b X.env) :: starEach [] X.env := by rfl)
    (hpl : (backTo pos (starEach [b] X.env)).any (·.1) = false := by rfl) : XE X C (.Call (.Name "isinstance" p) [a, b] [] pos) (isiT c t) :=
  PE.of (pe_callB call_isi hg hm (by decide +kernel) (pa_cons ha (pa_cons hb pa_nil hs2) hs) (by decide) (by decide) hs hpl) fun _ _ _ => low_isi hc
end
/-! ### pops -/
def pop3 (i : Nat) : TE3 := fun ρ Q => ∃ ds d, ρ[i]? = some (some (.ls (ds ++ [d]))) ∧ Q (.im d) (ρ.set i (some (.ls ds)))
def pop0 (i : Nat) : TE3 := fun ρ Q => ∃ d ds, ρ[i]? = some (some (.ls (d :: ds))) ∧ Q (.im d) (ρ.set i (some (.ls ds)))
theorem ims_snoc {g : Gx} {F : Hp} {d : D3} : ∀ {ds : List D3} {vs : List V}, Ims g F (ds ++ [d]) vs → ∃ us v, vs = us ++ [v] ∧ Ims g F ds us ∧ Im g F d v
  | [], vs, h => by
    obtain ⟨v, r, rfl, h1, h2⟩ := Ims.uncons h
    unfold Ims at h2
    subst h2
    exact ⟨[], v, rfl, Ims.nil, h1⟩
  | e :: ds, vs, h => by
    obtain ⟨v, r, rfl, h1, h2⟩ := Ims.uncons h
    obtain ⟨us, w, rfl, h3, h4⟩ := ims_snoc h2
    exact ⟨v :: us, w, rfl, Ims.cons h1 h3, h4⟩
theorem low_pop {g : Gx} {σ : L2.St} {H : Hp} {Q : VK} {i : Nat} (h : low g (pop3 i) σ H Q) : tBM0 g.K "list" rPop (tVar i) σ H Q := by
  obtain ⟨F, ρ, Q3, fr, ⟨ds, d, e, q⟩, k⟩ := h
  obtain ⟨x, e', p, vs, rfl, h1, h2, h3⟩ := fr.rep i _ e
  obtain ⟨us, v, rfl, h4, h5⟩ := ims_snoc h3
  refine ⟨.ref p, e', Or.inl ⟨rfl, _, SqL.of h2⟩, p, _, v, rfl, rfl, h2, by simp, ?_⟩
  rw [List.dropLast_concat]
  exact k _ _ _ _ _ q (Stp.write fr e rfl e' rfl ⟨p, us, rfl, h1, upd_same, h4⟩) (Res.im h5)
theorem low_pop0 {g : Gx} {σ : L2.St} {H : Hp} {Q : VK} {i : Nat} (h : low g (pop0 i) σ H Q) : tBM g.K "list" rPopAt (tVar i) (tCons (tC (.int 0)) tNil) σ H Q := by
  obtain ⟨F, ρ, Q3, fr, ⟨d, ds, e, q⟩, k⟩ := h
  obtain ⟨x, e', p, vs, rfl, h1, h2, h3⟩ := fr.rep i _ e
  obtain ⟨v, us, rfl, h5, h4⟩ := Ims.uncons h3
  refine ⟨.ref p, e', Or.inl ⟨rfl, _, SqL.of h2⟩, p, _, 0, 0, v, rfl, rfl, h2, by decide, by decide, ?_, rfl, ?_⟩
  · unfold seqIndex?
    simp
  · exact k _ _ _ _ _ q (Stp.write fr e rfl e' rfl ⟨p, us, rfl, h1, upd_same, h4⟩) (Res.im h5)
section
variable {X : Cx} {C : Addr} {o : Expr} {i : Nat} {apos cpos : Pos} {k2 : Nat} {p2 : Pos}
theorem x_pop (ho : PE X o (tVar i)) (hbase : attributeBase o "pop" X.env (eval o X.env) = eval o X.env := by rfl) (hline : (apos.endLine == cpos.line) = true := by rfl) : XE X C (.Call (.Attribute o "pop" apos) [] [] cpos) (pop3 i) :=
  PE.of (pe_bm0 PySem.F.plainAttrs_list PySem.F.slot_list_pop PySem.F.type_list_pop mt_pop ho hbase hline) fun _ _ _ => low_pop
theorem x_pop0 (ho : PE X o (tVar i)) (hbase : attributeBase o "pop" X.env (eval o X.env) = eval o X.env := by rfl)
    (hfew : ((backTo cpos (starEach [.Constant (.int 0) k2 p2] X.env)).all (fun x => !x.1) && (backToKw cpos (keywordEach [] X.env)).all (fun x => x.1.isSome)
      && decide (([.Constant (.int 0) k2 p2] : List Expr).length + ([] : List Keyword).length + (if ([] : List Keyword).isEmpty then 0 else 1) < 30)) = true := by rfl)
    (hline : (apos.endLine == cpos.line) = true := by rfl) : XE X C (.Call (.Attribute o "pop" apos) [.Constant (.int 0) k2 p2] [] cpos) (pop0 i) :=
  PE.of (pe_bm PySem.F.plainAttrs_list PySem.F.slot_list_pop PySem.F.type_list_pop mt_popAt ho (pa_cons pe_int pa_nil) hbase hfew hline) fun _ _ _ => low_pop0
end
/-! ### tuple(range(a, b)) -/
def rg3 (i j : Int) : List D3 := (List.range (j - i).toNat).map fun k => .int (i + (k : Nat))
def tupRg3 (ta tb : TE3) : TE3 := fun ρ Q => ta ρ fun a ρ1 => tb ρ1 fun b ρ2 => ∃ i j, a = .im (.int i) ∧ b = .im (.int j) ∧ (0 ≤ i ∧ i ≤ 100000 ∧ 0 ≤ j ∧ j ≤ 100000) ∧ Q (.im (.tup (rg3 i j))) ρ2
theorem ims_rg {g : Gx} {F : Hp} (i j : Int) : Ims g F (rg3 i j) (rgV i j) := by
  unfold rg3 rgV
  induction List.range (j - i).toNat with
  | nil => exact Ims.nil
  | cons a r ih => exact Ims.cons (im_int _ _) ih
theorem low_tupRg {g : Gx} {σ : L2.St} {H : Hp} {Q : VK} {ta tb : TE3} (h : low g (tupRg3 ta tb) σ H Q) : tTupRg (tRg2 (low g ta) (low g tb)) σ H Q := by
  obtain ⟨F, ρ, Q3, fr, q, k⟩ := h
  refine ⟨F, ρ, _, fr, q, fun a ρ1 F1 H1 x h1 s1 r1 => ⟨F1, ρ1, _, s1.fr, h1, fun b ρ2 F2 H2 y h2 s2 r2 => ?_⟩⟩
  obtain ⟨i, j, rfl, rfl, b1, h2⟩ := h2
  refine ⟨i, j, rep_int r1.rep, rep_int r2.rep, RgOk.of_le b1.1 (by omega) (by omega) b1.2.2.1, fun p hp => ?_⟩
  exact k _ _ _ _ _ h2 ((s1.trans s2).trans (Stp.newF s2.fr hp)) (Res.newT (s2.fr.ex.free hp) (ims_rg i j))
section
variable {X : Cx} {C : Addr} {a b : Expr} {ta tb : TE3} {p q pos qpos : Pos}
theorem x_tupRg (hc : X.calm = true) (hg : Gl X "tuple") (hm : X.mg "tuple" = none) (hg2 : Gl X "range") (hm2 : X.mg "range" = none) (ha : XE X C a ta) (hb : XE X C b tb) (na : starEach [a, b] X.env = (false, eval a X.env) :: starEach [b] X.env := by rfl)
    (nb : starEach [b] X.env = (false, eval b X.env) :: starEach [] X.env := by rfl) (hp : (backTo qpos (starEach [b] X.env)).any (·.1) = false := by rfl)
    (ne : starEach [.Call (.Name "range" q) [a, b] [] qpos] X.env = (false, eval (.Call (.Name "range" q) [a, b] [] qpos) X.env) :: starEach [] X.env := by rfl) :
    XE X C (.Call (.Name "tuple" p) [.Call (.Name "range" q) [a, b] [] qpos] [] pos) (tupRg3 ta tb) :=
  PE.of (pe_tupRg hc hg hm (prg_2 hg2 hm2 ha hb na nb hp) ne) fun _ _ _ => low_tupRg
end
/-! ### len(set(xs)) -/
def distinct (ns : List Int) : List Int := ns.foldl PyProof.Rows.step_dedup []
theorem firstMet_all (ns : List Int) : PyProof.Rows.firstMet (fun i => ns.getD i 0) ns.length = distinct ns := by
  unfold PyProof.Rows.firstMet distinct
  congr 1
  refine List.ext_getElem (by simp) ?_
  intro i h1 h2
  simp [List.getD_eq_getElem?_getD, h2]
def lenSet3 (t : TE3) : TE3 := fun ρ Q => t ρ fun a ρ1 => ∃ ns : List Int, a.items = some (ns.map D3.int) ∧ ns.length ≤ 4000 ∧ Q (.im (.int ((distinct ns).length : Nat))) ρ1
def tLenSet2 (K : PySem.W.Frag) (ta : TE) : TE := fun σ H Q => ta σ H fun x H1 => ∃ (l : Addr) (ns : List Int), x = .ref l ∧ SqL K H1 l (ns.map V.int) ∧ ns.length ≤ 4000 ∧ Q (.int ((distinct ns).length : Nat)) H1
theorem distinct_le (ns : List Int) : (distinct ns).length ≤ ns.length := by
  rw [← firstMet_all]
  exact PyProof.Rows.firstMet_length_le _ _
theorem pe_lenSet2 {X : Cx} {a : Expr} {ta : TE} {p p2 q pos : Pos} (hg : Gl X "len") (hm : X.mg "len" = none) (hg2 : Gl X "set") (hm2 : X.mg "set" = none) (ha : PE X a ta) (hc : X.calm = true)
    (na : starEach [a] X.env = (false, eval a X.env) :: starEach [] X.env) : PE X (.Call (.Name "len" p) [.Call (.Name "set" p2) [a] [] q] [] pos) (tLenSet2 X.K ta) := by
  refine ⟨fun pins s σ H Q I h => PyProof.Rows.Call_ (ld_blt I hg hm PySem.boot_len (PyProof.Rows.callWith_builtin1 (PyProof.Rows.args_cons ?_ rfl) rfl rfl))⟩
  refine PyProof.Rows.Call_ (ld_blt I hg2 hm2 (PyProof.Rows.boot_set) (PyProof.Rows.callWith_type1 (PyProof.Rows.args_cons (thn (ha.run pins s σ H _ I h) fun v s1 ⟨x, H1, I1, r1, q1⟩ => PyProof.Rows.args_nil ?_) na) na rfl))
  obtain ⟨l, ns, rfl, hq, hl, q1⟩ := q1
  have r1 : v = Value.ref l := r1
  subst r1
  obtain ⟨its, r, pl, _⟩ := I1.list hq
  have hsz : its.toArray.size = ns.length := by rw [List.size_toArray, ← r.length, List.length_map]
  refine call_set_list (I1.ok.hd hc) pl.isList (by simpa using Vals.ints r) (by rw [hsz]; unfold scanBound; omega) fun h' tk hS hk => PyProof.Rows.args_nil ?_
  rw [hsz, firstMet_all] at hS
  rcases hS with ⟨o, es, ep, t, ho, hex, hd, _, _, _, hf, hn⟩
  have I2 : Inv X pins σ H1 { s1 with heap := h', toks := tk } := by
    refine I1.kept ?_
    intro c u z
    exact hk c u (Heap.lt_size z) z
  have hle := distinct_le ns
  exact call_len_set ho hex hd hf (by rw [hn]; omega) ⟨.int (distinct ns).length, H1, I2.tok _, ⟨_, by rw [hn]⟩, q1⟩
theorem low_lenSet {g : Gx} {σ : L2.St} {H : Hp} {Q : VK} {t : TE3} (h : low g (lenSet3 t) σ H Q) : tLenSet2 g.K (low g t) σ H Q := by
  obtain ⟨F, ρ, Q3, fr, q, k⟩ := h
  refine ⟨F, ρ, _, fr, q, fun a ρ1 F1 H1 x h1 s1 r1 => ?_⟩
  obtain ⟨ns, hi, hl, h1⟩ := h1
  obtain ⟨p, vs, rfl, z1, z2⟩ := items_at s1.fr.ex r1.rep hi
  rw [ims_ints z2] at z1
  exact ⟨p, ns, rfl, z1, hl, k _ _ _ _ _ h1 s1 (Res.im (im_int _ _))⟩
theorem x_lenSet {X : Cx} {C : Addr} {a : Expr} {t : TE3} {p p2 q pos : Pos} (hc : X.calm = true) (hg : Gl X "len") (hm : X.mg "len" = none) (hg2 : Gl X "set") (hm2 : X.mg "set" = none) (ha : XE X C a t)
    (na : starEach [a] X.env = (false, eval a X.env) :: starEach [] X.env := by rfl) : XE X C (.Call (.Name "len" p) [.Call (.Name "set" p2) [a] [] q] [] pos) (lenSet3 t) :=
  PE.of (pe_lenSet2 hg hm hg2 hm2 ha hc na) fun _ _ _ => low_lenSet
end L3

set_option Elab.async false
set_option autoImplicit false
set_option linter.all false
set_option maxRecDepth 100000
/-! L3, part f: statements, targets, loops. -/
namespace L3
open PySem PySem.Spec L2

structure EndsL (g : Gx) (F : Hp) (ρ : Rho) (σ : L2.St) (H : Hp) (D3 : Ends3) (D : Ends) : Prop where
  nx : ∀ F' ρ' σ' H', D3.nx ρ' → Stp g F ρ σ H F' ρ' σ' H' → D.nx σ' H'
  rt : ∀ F' ρ' σ' H' r v, D3.rt r ρ' → Stp g F ρ σ H F' ρ' σ' H' → Res g F' H' ρ' σ' r v ρ σ H → D.rt v H'
  bk : ∀ F' ρ' σ' H', D3.bk ρ' → Stp g F ρ σ H F' ρ' σ' H' → D.bk σ' H'
  ct : ∀ F' ρ' σ' H', D3.ct ρ' → Stp g F ρ σ H F' ρ' σ' H' → D.ct σ' H'
def lowS (g : Gx) (t : TS3) : TS := fun D σ H => ∃ (F : Hp) (ρ : Rho) (E : Ends3), Frm g F ρ σ H ∧ t E ρ ∧ EndsL g F ρ σ H E D
abbrev XS (X : Cx) (C : Addr) (st : Stmt) (t : TS3) : Prop := PS X st (lowS (gx X C) t)
abbrev XSs (X : Cx) (C : Addr) (st : List Stmt) (t : TS3) : Prop := PSs X st (lowS (gx X C) t)
theorem PS.of {X : Cx} {st : Stmt} {t t' : TS} (h : PS X st t) (k : ∀ D σ H, t' D σ H → t D σ H) : PS X st t' := ⟨fun pins s σ H D I w => h.run pins s σ H D I (k D σ H w)⟩
theorem PSs.of {X : Cx} {st : List Stmt} {t t' : TS} (h : PSs X st t) (k : ∀ D σ H, t' D σ H → t D σ H) : PSs X st t' := ⟨fun pins s σ H D I w => h.run pins s σ H D I (k D σ H w)⟩
section
variable {g : Gx} {F F1 : Hp} {ρ ρ1 : Rho} {σ σ1 : L2.St} {H H1 : Hp} {E : Ends3} {D : Ends}
theorem EndsL.step (a : EndsL g F ρ σ H E D) (s : Stp g F ρ σ H F1 ρ1 σ1 H1) : EndsL g F1 ρ1 σ1 H1 E D :=
  ⟨fun _ _ _ _ h z => a.nx _ _ _ _ h (s.trans z), fun _ _ _ _ _ _ h z q => a.rt _ _ _ _ _ _ h (s.trans z) (q.trans s), fun _ _ _ _ h z => a.bk _ _ _ _ h (s.trans z), fun _ _ _ _ h z => a.ct _ _ _ _ h (s.trans z)⟩
end

/-! ### blocks -/
def next3 : TS3 := fun D ρ => D.nx ρ
def seq3 (t u : TS3) : TS3 := fun D ρ => t { D with nx := u D } ρ
def drop3 (t : TE3) : TS3 := fun D ρ => t ρ fun _ ρ1 => D.nx ρ1
def ret3 (t : TE3) : TS3 := fun D ρ => t ρ fun r ρ1 => D.rt r ρ1
def ifS3 (c : TT3) (t u : TS3) : TS3 := fun D ρ => c ρ fun b ρ1 => if b = true then t D ρ1 else u D ρ1
def never3 : TS3 := fun _ _ => False
def asg3 (t : TE3) (i : Nat) : TS3 := fun D ρ => t ρ fun r ρ1 => D.nx (ρ1.set i (some r))
section
variable {g : Gx} {σ : L2.St} {H : Hp} {D : Ends} {t u : TS3} {te : TE3} {c : TT3}
theorem low_next (h : lowS g next3 D σ H) : tNext D σ H := by
  obtain ⟨F, ρ, E, fr, q, k⟩ := h
  exact k.nx _ _ _ _ q (Stp.refl fr)
theorem low_seq (h : lowS g (seq3 t u) D σ H) : tSeq (lowS g t) (lowS g u) D σ H := by
  obtain ⟨F, ρ, E, fr, q, k⟩ := h
  exact ⟨F, ρ, _, fr, q, ⟨fun F' ρ' σ' H' h s => ⟨F', ρ', E, s.fr, h, k.step s⟩, k.rt, k.bk, k.ct⟩⟩
theorem low_drop (h : lowS g (drop3 te) D σ H) : tDrop (low g te) D σ H := by
  obtain ⟨F, ρ, E, fr, q, k⟩ := h
  exact ⟨F, ρ, _, fr, q, fun r ρ1 F1 H1 v h s _ => k.nx _ _ _ _ h s⟩
theorem low_ret (h : lowS g (ret3 te) D σ H) : tRet (low g te) D σ H := by
  obtain ⟨F, ρ, E, fr, q, k⟩ := h
  exact ⟨F, ρ, _, fr, q, fun r ρ1 F1 H1 v h s r1 => k.rt _ _ _ _ _ _ h s r1⟩
theorem low_ifS (h : lowS g (ifS3 c t u) D σ H) : tIfS (lowT g c) (lowS g t) (lowS g u) D σ H := by
  obtain ⟨F, ρ, E, fr, q, k⟩ := h
  refine ⟨F, ρ, _, fr, q, fun b ρ1 F1 H1 h s => ?_⟩
  cases b with
  | true => exact ⟨F1, ρ1, E, s.fr, h, k.step s⟩
  | false => exact ⟨F1, ρ1, E, s.fr, h, k.step s⟩
theorem low_asg {i : Nat} (h : lowS g (asg3 te i) D σ H) : tAsg (low g te) (gName i) D σ H := by
  obtain ⟨F, ρ, E, fr, q, k⟩ := h
  exact ⟨F, ρ, _, fr, q, fun r ρ1 F1 H1 v h s r1 => k.nx _ _ _ _ h (Stp.set fr s r1)⟩
end
section
variable {X : Cx} {C : Addr} {st : Stmt} {rest a b : List Stmt} {t u : TS3} {te : TE3} {tc : TT3} {e c : Expr} {pos pos' : Pos} {i : Nat} {x : Str}
theorem xs_nil : XSs X C [] next3 := PSs.of pss_nil fun _ _ _ => low_next
theorem xs_cons (h1 : XS X C st t) (h2 : XSs X C rest u) : XSs X C (st :: rest) (seq3 t u) := PSs.of (pss_cons h1 h2) fun _ _ _ => low_seq
theorem xs_one (h1 : XS X C st t) : XSs X C [st] t := pss_one h1
theorem xs_expr (he : XE X C e te) (hs : swapsWith e none pos.line X.env = pure false := by rfl) : XS X C (.Expr e pos) (drop3 te) := PS.of (ps_expr he hs) fun _ _ _ => low_drop
theorem xs_ret (he : XE X C e te) : XS X C (.Return (some e) pos) (ret3 te) := PS.of (ps_ret he) fun _ _ _ => low_ret
theorem xs_if (hc : XT X C c tc) (ha : XSs X C a t) (hb : XSs X C b u) : XS X C (.If c a b pos) (ifS3 tc t u) := PS.of (ps_if hc ha hb) fun _ _ _ => low_ifS
theorem xs_never : XS X C st never3 := ⟨fun _ _ _ _ _ _ h => by obtain ⟨_, _, _, _, z, _⟩ := h; exact z.elim⟩
theorem xs_set (i : Nat) (hN : X.N.Nodup) (he : XE X C e te) (hi : X.N[i]? = some x := by rfl) (hx : Loc X.env.scope x := by first | exact .inl rfl | exact .inr rfl) (hs : swapsWith e (some (.Name x pos')) pos.line X.env = pure false := by rfl)
    (hf : X.fn x = true ∨ X.env.scope.names.lookup x = some .local := by first | exact .inl rfl | exact .inr rfl | assumption) : XS X C (.Assign [.Name x pos'] e pos) (asg3 te i) := PS.of (ps_set hN hi hx he hs hf) fun _ _ _ => low_asg
end

/-! ### targets -/
abbrev TG3 := D3 → Rho → (Rho → Prop) → Prop
def GL (g : Gx) (tg : TG) (t : TG3) (js : List Nat) : Prop :=
  ∀ (F : Hp) (ρ : Rho) (σ : L2.St) (H : Hp) (d : D3) (v : V) (Q3 : Rho → Prop) (Q : L2.St → Hp → Prop), Frm g F ρ σ H → Im g F d v → t d ρ Q3 →
    (∀ ρ' σ', Q3 ρ' → Stp g F ρ σ H F ρ' σ' H → (∀ vs, (∀ j ∈ js, j ∈ vs) → wipe σ' vs = wipe σ vs) → Q σ' H) → tg v σ H Q
def gn3 (j : Nat) : TG3 := fun d ρ Q => Q (ρ.set j (some (.im d)))
def gp3 (i j : Nat) : TG3 := fun d ρ Q => ∃ a b, d = .tup [a, b] ∧ Q ((ρ.set i (some (.im a))).set j (some (.im b)))
theorem wipe_get (σ : L2.St) : ∀ (vs : List Nat) (i : Nat), (wipe σ vs)[i]? = if i ∈ vs ∧ i < σ.length then some none else σ[i]?
  | [], i => by simp [wipe]
  | v :: vs, i => by
    unfold wipe
    by_cases h : v = i
    · subst h
      by_cases hl : v < σ.length
      · rw [List.getElem?_set_self (by rw [wipe_length]; exact hl), if_pos ⟨List.mem_cons_self, hl⟩]
      · rw [List.getElem?_eq_none (by rw [List.length_set, wipe_length]; omega), if_neg (fun z => hl z.2), List.getElem?_eq_none (by omega)]
    · rw [List.getElem?_set_ne h, wipe_get σ vs i]
      by_cases hm : i ∈ vs
      · by_cases hl : i < σ.length
        · rw [if_pos ⟨hm, hl⟩, if_pos ⟨List.mem_cons_of_mem _ hm, hl⟩]
        · rw [if_neg (fun z => hl z.2), if_neg (fun z => hl z.2)]
      · rw [if_neg (fun z => hm z.1), if_neg (fun z => ?_)]
        rcases List.mem_cons.mp z.1 with q | q
        · exact h q.symm
        · exact hm q
theorem wipe_set (σ : L2.St) (vs : List Nat) {j : Nat} (hj : j ∈ vs) (x : Option V) : wipe (σ.set j x) vs = wipe σ vs := by
  refine List.ext_getElem? fun i => ?_
  rw [wipe_get, wipe_get, List.length_set]
  by_cases h : i ∈ vs ∧ i < σ.length
  · rw [if_pos h, if_pos h]
  · rw [if_neg h, if_neg h]
    by_cases hi : j = i
    · subst hi
      have hl : ¬ j < σ.length := fun z => h ⟨hj, z⟩
      rw [List.getElem?_eq_none (by rw [List.length_set]; omega), List.getElem?_eq_none (by omega)]
    · rw [List.getElem?_set_ne hi]
theorem wipe_wipe (σ : L2.St) (vs : List Nat) : wipe (wipe σ vs) vs = wipe σ vs := by
  refine List.ext_getElem? fun i => ?_
  rw [wipe_get, wipe_get, wipe_length]
  by_cases h : i ∈ vs ∧ i < σ.length
  · rw [if_pos h, if_pos h]
  · rw [if_neg h]
theorem gl_name {g : Gx} {j : Nat} : GL g (gName j) (gn3 j) [j] := by
  intro F ρ σ H d v Q3 Q fr im h k
  exact k _ _ h (Stp.set1 fr (Res.im im)) fun vs hv => wipe_set _ _ (hv j (by simp)) _
theorem gl_pair {g : Gx} {i j : Nat} : GL g (gTup g.K 2 (gCons (gName i) (gCons (gName j) gNil))) (gp3 i j) [i, j] := by
  intro F ρ σ H d v Q3 Q fr im h k
  obtain ⟨a, b, rfl, h⟩ := h
  unfold Im at im
  obtain ⟨p, vs, rfl, h1, h2⟩ := im
  obtain ⟨x, r, rfl, hx, h3⟩ := h2.uncons
  obtain ⟨y, r2, rfl, hy, h4⟩ := h3.uncons
  unfold Ims at h4
  subst h4
  refine ⟨p, _, rfl, SqT.of (fr.ex _ _ h1), rfl, x, _, rfl, y, _, rfl, rfl, ?_⟩
  have s1 : Stp g F ρ σ H F (ρ.set i (some (.im a))) (σ.set i (some x)) H := Stp.set1 fr (Res.im hx)
  refine k _ _ h (s1.trans (Stp.set1 s1.fr (Res.im hy))) fun vs hv => ?_
  rw [wipe_set _ _ (hv j (by simp)), wipe_set _ _ (hv i (by simp))]
/-- target = e, the target of any form -/
def asgG3 (t : TE3) (tg : TG3) : TS3 := fun D ρ => t ρ fun r ρ1 => ∃ d, r = .im d ∧ tg d ρ1 D.nx
theorem low_asgG {g : Gx} {σ : L2.St} {H : Hp} {D : Ends} {te : TE3} {tg : TG} {tg3 : TG3} {js : List Nat} (hl : GL g tg tg3 js) (h : lowS g (asgG3 te tg3) D σ H) : tAsg (low g te) tg D σ H := by
  obtain ⟨F, ρ, E, fr, q, k⟩ := h
  refine ⟨F, ρ, _, fr, q, fun r ρ1 F1 H1 v h s r1 => ?_⟩
  obtain ⟨d, rfl, h⟩ := h
  exact hl F1 ρ1 σ H1 d v _ _ s.fr r1.rep h fun ρ' σ' hq s2 _ => k.nx _ _ _ _ hq (s.trans s2)
section
variable {X : Cx} {C : Addr} {e tgt : Expr} {te : TE3} {tg : TG} {tg3 : TG3} {js : List Nat} {pos pos' : Pos}
theorem xs_asgG (he : XE X C e te) (hg : PG X tgt tg) (hl : GL (gx X C) tg tg3 js) (hs : swapsWithSole [tgt] e pos.line X.env = pure false := by rfl) (hw : swappedStores [tgt] e X.env = pure none := by rfl)
    (h1 : (assignEach [tgt] X.env).map (·.2) = [assign tgt X.env] := by rfl) : XS X C (.Assign [tgt] e pos) (asgG3 te tg3) := PS.of (ps_asg he hg hs hw h1) fun _ _ _ => low_asgG hl
/-- the pair target -/
theorem pg_pair {x y : Str} {px py : Pos} {k2 : Nat} (i j : Nat) (hN : X.N.Nodup) (hc : X.calm = true := by rfl) (hi : X.N[i]? = some x := by rfl) (hj : X.N[j]? = some y := by rfl) (hx : Loc X.env.scope x := by first | exact .inl rfl | exact .inr rfl) (hy : Loc X.env.scope y := by first | exact .inl rfl | exact .inr rfl)
    (fx : X.fn x = true ∨ X.env.scope.names.lookup x = some .local := by first | exact .inl rfl | exact .inr rfl | assumption) (fy : X.fn y = true ∨ X.env.scope.names.lookup y = some .local := by first | exact .inl rfl | exact .inr rfl | assumption) :
    PG X (.Tuple [.Name x px, .Name y py] k2 pos) (gTup X.K 2 (gCons (gName i) (gCons (gName j) gNil))) :=
  pg_tup hc (pgs_cons (pg_name hN hi hx fx) (pgs_cons (pg_name hN hj hy fy) pgs_nil))
end
/-- a, b = e1, e2 -/
def par3 (i j : Nat) (t : TA3) : TS3 := fun D ρ => t ρ fun ds ρ1 => ∃ a b, ds = [a, b] ∧ D.nx ((ρ1.set i (some (.im a))).set j (some (.im b)))
theorem low_par {g : Gx} {σ : L2.St} {H : Hp} {D : Ends} {t : TA3} {i j : Nat} (h : lowS g (par3 i j t) D σ H) : tPar i j (lowA g t) D σ H := by
  obtain ⟨F, ρ, E, fr, q, k⟩ := h
  refine ⟨F, ρ, _, fr, q, fun ds ρ1 F1 H1 vs h s r1 => ?_⟩
  obtain ⟨a, b, rfl, h⟩ := h
  obtain ⟨x, r, rfl, hx, h3⟩ := r1.uncons
  obtain ⟨y, r2, rfl, hy, h4⟩ := h3.uncons
  unfold Ims at h4
  subst h4
  have s1 : Stp g F1 ρ1 σ H1 F1 (ρ1.set i (some (.im a))) (σ.set i (some x)) H1 := Stp.set1 s.fr (Res.im hx)
  exact ⟨x, y, rfl, k.nx _ _ _ _ h ((s.trans s1).trans (Stp.set1 s1.fr (Res.im hy)))⟩
section
variable {X : Cx} {C : Addr} {a b : Expr} {ta : TA3} {pos px py pt pt2 : Pos} {kt k2 : Nat} {x y : Str}
theorem xs_par (i j : Nat) (hN : X.N.Nodup) (ha : XA X C [a, b] ta) (hc : X.calm = true := by rfl) (hi : X.N[i]? = some x := by rfl) (hj : X.N[j]? = some y := by rfl) (hij : i ≠ j := by decide)
    (hx : X.env.scope.names.lookup x = some .local := by rfl) (hy : X.env.scope.names.lookup y = some .local := by rfl)
    (hw : swappedStores [.Tuple [.Name x px, .Name y py] kt pt] (.Tuple [a, b] k2 pt2) X.env = pure (some [x, y]) := by rfl)
    (hs : swapsWithSole [.Tuple [.Name x px, .Name y py] kt pt] (.Tuple [a, b] k2 pt2) pos.line X.env = pure false := by rfl) : XS X C (.Assign [.Tuple [.Name x px, .Name y py] kt pt] (.Tuple [a, b] k2 pt2) pos) (par3 i j ta) := PS.of (ps_par hc hN hi hj hij hx hy ha hw hs) fun _ _ _ => low_par
end
/-! ### x op= e -/
def aug3 (i : Nat) (op3 : R3 → R3 → (R3 → Prop) → Prop) (te : TE3) : TS3 := fun D ρ => te ρ fun b ρ1 => ∃ a, ρ1[i]? = some (some (.im a)) ∧ ρ[i]? = some (some (.im a)) ∧ op3 (.im a) b fun c => D.nx (ρ1.set i (some c))
theorem low_aug {g : Gx} {σ : L2.St} {H : Hp} {D : Ends} {te : TE3} {i : Nat} {op3 : R3 → R3 → (R3 → Prop) → Prop} {r : R2} (hl : OpL g r op3) (hi : ∀ F ρ, Frm g F ρ σ H → (∃ a, ρ[i]? = some (some (.im a))) → True) (h : lowS g (aug3 i op3 te) D σ H) (hv : ∃ x, σ[i]? = some (some x)) : tAug i (low g te) r D σ H := by
  obtain ⟨x, hx⟩ := hv
  obtain ⟨F, ρ, E, fr, q, k⟩ := h
  refine ⟨x, hx, F, ρ, _, fr, q, fun b ρ1 F1 H1 y h s r1 => ?_⟩
  obtain ⟨a, e1, e2, h⟩ := h
  obtain ⟨x', e3, ra⟩ := s.fr.rep i _ e1
  rw [hx] at e3
  cases e3
  exact hl F1 ρ1 σ H1 (.im a) b x y _ _ s.fr ra r1.rep h fun c F' H' v hc s2 r2 => k.nx _ _ _ _ hc (s.trans (Stp.set s.fr s2 r2))
/-- the slot is filled -/
def has3 (i : Nat) (t : TS3) : TS3 := fun D ρ => (∃ r, ρ[i]? = some (some r)) ∧ t D ρ
section
variable {X : Cx} {C : Addr} {e : Expr} {te : TE3} {op : Operator} {op3 : R3 → R3 → (R3 → Prop) → Prop} {r : R2} {pos pos' : Pos} {x : Str}
theorem xs_aug (i : Nat) (hN : X.N.Nodup) (he : XE X C e te) (ho : OpR X (inplaceOp op) r) (hl : OpL (gx X C) r op3) (hi : X.N[i]? = some x := by rfl) (hx : Loc X.env.scope x := by first | exact .inl rfl | exact .inr rfl)
    (hf : X.fn x = true ∨ X.env.scope.names.lookup x = some .local := by first | exact .inl rfl | exact .inr rfl | assumption) : XS X C (.AugAssign (.Name x pos') op e pos) (has3 i (aug3 i op3 te)) :=
  PS.of (ps_aug hN hi hx he (ti := r) (fun pins s σ H x y v u Q I rx ry h => ho pins s σ H x y v u Q I rx ry h) hf) fun D σ H h => by
    obtain ⟨F, ρ, E, fr, ⟨⟨a, ha⟩, q⟩, k⟩ := h
    obtain ⟨v, hv, _⟩ := fr.rep i a ha
    exact low_aug hl (fun _ _ _ _ => True.intro) ⟨F, ρ, E, fr, q, k⟩ ⟨v, hv⟩
theorem xs_augAdd (i : Nat) (hN : X.N.Nodup) (he : XE X C e te) (hi : X.N[i]? = some x := by rfl) (hx : Loc X.env.scope x := by first | exact .inl rfl | exact .inr rfl)
    (hf : X.fn x = true ∨ X.env.scope.names.lookup x = some .local := by first | exact .inl rfl | exact .inr rfl | assumption) : XS X C (.AugAssign (.Name x pos') .Add e pos) (has3 i (aug3 i (int20 fun i j => .int (i + j)) te)) :=
  xs_aug i hN he iop_add (opl_int0 fun _ _ => im_int _) hi hx hf
theorem xs_augMul (i : Nat) (hN : X.N.Nodup) (he : XE X C e te) (hi : X.N[i]? = some x := by rfl) (hx : Loc X.env.scope x := by first | exact .inl rfl | exact .inr rfl)
    (hf : X.fn x = true ∨ X.env.scope.names.lookup x = some .local := by first | exact .inl rfl | exact .inr rfl | assumption) : XS X C (.AugAssign (.Name x pos') .Mult e pos) (has3 i (aug3 i (int2 CMul fun i j => .int (i * j)) te)) :=
  xs_aug i hN he iop_mul (opl_int fun _ _ => im_int _) hi hx hf
end
/-! ### lists that grow -/
def app3 (i : Nat) (te : TE3) : TS3 := fun D ρ => (∃ ds0, ρ[i]? = some (some (.ls ds0))) ∧ te ρ fun r ρ1 => ∃ d ds, r = .im d ∧ ρ1[i]? = some (some (.ls ds)) ∧ ds.length < 100000 ∧ D.nx (ρ1.set i (some (.ls (ds ++ [d]))))
def ext3 (i : Nat) (te : TE3) : TS3 := fun D ρ => (∃ ds0, ρ[i]? = some (some (.ls ds0))) ∧ te ρ fun r ρ1 => ∃ es ds, r = .ls es ∧ ρ1[i]? = some (some (.ls ds)) ∧ ds.length + es.length ≤ 100000 ∧ D.nx (ρ1.set i (some (.ls (ds ++ es))))
section
variable {g : Gx} {σ : L2.St} {H : Hp} {D : Ends} {te : TE3} {i : Nat}
theorem low_app (h : lowS g (app3 i te) D σ H) : tDrop (tBM g.K "list" rAppend (tVar i) (tCons (low g te) tNil)) D σ H := by
  obtain ⟨F, ρ, E, fr, ⟨⟨ds0, e0⟩, q⟩, k⟩ := h
  obtain ⟨x, e', p, vs0, rfl, z1, z2, z3⟩ := fr.rep i _ e0
  refine ⟨.ref p, e', Or.inl ⟨rfl, _, SqL.of z2⟩, F, ρ, _, fr, q, fun r ρ1 F1 H1 v h s r1 => ?_⟩
  obtain ⟨d, ds, rfl, e1, hz, h⟩ := h
  obtain ⟨x, e2, p', vs, rfl, y1, y2, y3⟩ := s.fr.rep i _ e1
  rw [e'] at e2
  cases e2
  have hl := y3.length
  refine ⟨p, vs, v, rfl, rfl, y2, line_lt (by omega), k.nx _ _ _ _ h (s.trans (Stp.write s.fr e1 rfl e' rfl ⟨p, _, rfl, y1, upd_same, y3.append (Ims.cons r1.rep Ims.nil)⟩))⟩
theorem low_ext (h : lowS g (ext3 i te) D σ H) : tDrop (tBM g.K "list" rExtend (tVar i) (tCons (low g te) tNil)) D σ H := by
  obtain ⟨F, ρ, E, fr, ⟨⟨ds0, e0⟩, q⟩, k⟩ := h
  obtain ⟨x, e', p, vs0, rfl, z1, z2, z3⟩ := fr.rep i _ e0
  refine ⟨.ref p, e', Or.inl ⟨rfl, _, SqL.of z2⟩, F, ρ, _, fr, q, fun r ρ1 F1 H1 v h s r1 => ?_⟩
  obtain ⟨es, ds, rfl, e1, hz, h⟩ := h
  obtain ⟨x, e2, p', vs, rfl, y1, y2, y3⟩ := s.fr.rep i _ e1
  rw [e'] at e2
  cases e2
  obtain ⟨b, us, rfl, w1, w2, w3⟩ := r1.rep
  have hl := y3.length
  have hl2 := w3.length
  exact ⟨p, b, vs, us, rfl, rfl, y2, w2, line_of (by omega), k.nx _ _ _ _ h (s.trans (Stp.write s.fr e1 rfl e' rfl ⟨p, _, rfl, y1, upd_same, y3.append w3⟩))⟩
end
section
variable {X : Cx} {C : Addr} {o e : Expr} {te : TE3} {i : Nat} {apos cpos pos : Pos}
theorem xs_app (ho : PE X o (tVar i)) (he : XE X C e te) (hbase : attributeBase o "append" X.env (eval o X.env) = eval o X.env := by rfl)
    (hfew : ((backTo cpos (starEach [e] X.env)).all (fun x => !x.1) && (backToKw cpos (keywordEach [] X.env)).all (fun x => x.1.isSome) && decide (([e] : List Expr).length + ([] : List Keyword).length + (if ([] : List Keyword).isEmpty then 0 else 1) < 30)) = true := by rfl) (hline : (apos.endLine == cpos.line) = true := by rfl) (hs : starEach [e] X.env = (false, eval e X.env) :: starEach [] X.env := by rfl) (hplain : (backTo cpos (starEach [] X.env)).any (·.1) = false := by rfl)
    (hq : swapsWith (.Call (.Attribute o "append" apos) [e] [] cpos) none pos.line X.env = pure false := by rfl) : XS X C (.Expr (.Call (.Attribute o "append" apos) [e] [] cpos) pos) (app3 i te) :=
  PS.of (ps_expr (pe_bm PySem.F.plainAttrs_list PySem.F.slot_list_append PySem.F.type_list_append mt_append ho (pa_cons he pa_nil hs) hbase hfew hline hs hplain) hq) fun _ _ _ => low_app
theorem xs_ext (ho : PE X o (tVar i)) (he : XE X C e te) (hbase : attributeBase o "extend" X.env (eval o X.env) = eval o X.env := by rfl)
    (hfew : ((backTo cpos (starEach [e] X.env)).all (fun x => !x.1) && (backToKw cpos (keywordEach [] X.env)).all (fun x => x.1.isSome) && decide (([e] : List Expr).length + ([] : List Keyword).length + (if ([] : List Keyword).isEmpty then 0 else 1) < 30)) = true := by rfl) (hline : (apos.endLine == cpos.line) = true := by rfl) (hs : starEach [e] X.env = (false, eval e X.env) :: starEach [] X.env := by rfl) (hplain : (backTo cpos (starEach [] X.env)).any (·.1) = false := by rfl)
    (hq : swapsWith (.Call (.Attribute o "extend" apos) [e] [] cpos) none pos.line X.env = pure false := by rfl) : XS X C (.Expr (.Call (.Attribute o "extend" apos) [e] [] cpos) pos) (ext3 i te) :=
  PS.of (ps_expr (pe_bm PySem.F.plainAttrs_list PySem.F.slot_list_extend PySem.F.type_list_extend mt_extend ho (pa_cons he pa_nil hs) hbase hfew hline hs hplain) hq) fun _ _ _ => low_ext
end
/-! ### while -/
def while3 (c : TT3) (tb : TS3) : TS3 := fun D ρ => ∃ W : Nat → Rho → Prop, (∃ m, W m ρ) ∧ ∀ m ρ, W m ρ →
  c ρ fun b ρ1 => if b = true then tb { D with nx := fun ρ' => ∃ m', m' < m ∧ W m' ρ', ct := fun ρ' => ∃ m', m' < m ∧ W m' ρ', bk := D.nx } ρ1 else D.nx ρ1
theorem low_while {g : Gx} {σ : L2.St} {H : Hp} {D : Ends} {c : TT3} {tb : TS3} (h : lowS g (while3 c tb) D σ H) : tWhile (lowT g c) (lowS g tb) D σ H := by
  obtain ⟨F, ρ, E, fr, ⟨W, ⟨m0, w0⟩, turn⟩, k⟩ := h
  refine ⟨fun m σ' H' => ∃ F' ρ', Stp g F ρ σ H F' ρ' σ' H' ∧ W m ρ', ⟨m0, F, ρ, Stp.refl fr, w0⟩, fun m σ1 H1 ⟨F1, ρ1, s1, w1⟩ => ?_⟩
  refine ⟨F1, ρ1, _, s1.fr, turn m ρ1 w1, fun b ρ2 F2 H2 h s2 => ?_⟩
  have s := s1.trans s2
  cases b with
  | true =>
    refine ⟨fun σ' H' => ∃ m', m' < m ∧ ∃ F' ρ', Stp g F ρ σ H F' ρ' σ' H' ∧ W m' ρ', fun σ' H' z => z, F2, ρ2, _, s2.fr, h, ?_⟩
    exact ⟨fun F' ρ' σ' H' ⟨m', hm, w⟩ z => ⟨m', hm, F', ρ', s.trans z, w⟩, fun _ _ _ _ _ _ hh z q => k.rt _ _ _ _ _ _ hh (s.trans z) (q.trans s), fun _ _ _ _ hh z => k.nx _ _ _ _ hh (s.trans z), fun F' ρ' σ' H' ⟨m', hm, w⟩ z => ⟨m', hm, F', ρ', s.trans z, w⟩⟩
  | false => exact k.nx _ _ _ _ h s
section
variable {X : Cx} {C : Addr} {c : Expr} {body : List Stmt} {tc : TT3} {tb : TS3} {pos : Pos}
theorem xs_while (hp : PassesOwn (model X.prog X.w) X.A X.env X.xe) (hc : XT X C c tc) (hb : XSs X C body tb) : XS X C (.While c body [] pos) (while3 tc tb) := PS.of (ps_while hp hc hb) fun _ _ _ => low_while
end
/-! ### for -/
def loop3 (ds : List D3) (tg : TG3) (tb : TS3) (D : Ends3) (ρ : Rho) : Prop := ∃ Pv : Nat → Rho → Prop, Pv 0 ρ ∧
  (∀ i d ρ', ds[i]? = some d → Pv i ρ' → tg d ρ' fun ρ2 => tb { D with nx := Pv (i + 1), ct := Pv (i + 1), bk := D.nx } ρ2) ∧ ∀ ρ', Pv ds.length ρ' → D.nx ρ'
def forL3 (src : TE3) (tg : TG3) (tb : TS3) : TS3 := fun D ρ => src ρ fun r ρ1 => ∃ ds, r.items = some ds ∧ loop3 ds tg tb D ρ1
def forT3 (src : TE3) (tg : TG3) (tb : TS3) : TS3 := fun D ρ => src ρ fun r ρ1 => ∃ ds, r = .im (.tup ds) ∧ loop3 ds tg tb D ρ1
def forR1 (te : TE3) (tg : TG3) (tb : TS3) : TS3 := fun D ρ => te ρ fun r ρ1 => ∃ n : Nat, r = .im (.int n) ∧ n ≤ 100000 ∧ loop3 ((List.range n).map fun k => .int (k : Nat)) tg tb D ρ1
def forR2 (ta te : TE3) (tg : TG3) (tb : TS3) : TS3 := fun D ρ => ta ρ fun r ρ1 => te ρ1 fun r2 ρ2 => ∃ lo n : Nat, r = .im (.int lo) ∧ r2 = .im (.int n) ∧ lo ≤ 100000 ∧ n ≤ 100000 ∧ loop3 ((List.range (n - lo)).map fun k => .int ((lo + k : Nat))) tg tb D ρ2
/-- what is walked is frozen -/
theorem items_fz {g : Gx} {F F1 H H1 : Hp} {ρ ρ1 : Rho} {σ σ1 : L2.St} {r : R3} {v : V} {ds : List D3} (s : Stp g F ρ σ H F1 ρ1 σ1 H1) (q : Res g F1 H1 ρ1 σ1 r v ρ σ H) (hi : r.items = some ds) :
    ∃ F2 p vs, v = .ref p ∧ Stp g F ρ σ H F2 ρ1 σ1 H1 ∧ SqL g.K F2 p vs ∧ Ims g F2 ds vs := by
  cases r with
  | im d =>
    cases d with
    | lst es =>
      cases hi
      obtain ⟨p, vs, rfl, h1, h2⟩ := rep_lst q.rep
      exact ⟨F1, p, vs, rfl, s, h1, h2⟩
    | _ => cases hi
  | ls es =>
    cases hi
    obtain ⟨F2, p, rfl, s2, im⟩ := Stp.freezeR s q
    unfold Im at im
    obtain ⟨p', vs, e, h1, h2⟩ := im
    cases e
    exact ⟨F2, p, vs, rfl, s2, h1, h2⟩
  | dc _ => cases hi
  | tp _ _ => cases hi
  | ob _ _ => cases hi
section
variable {g : Gx} {σ : L2.St} {H : Hp} {D : Ends} {src te : TE3} {tg : TG} {tg3 : TG3} {tb : TS3} {js : List Nat}
/-- one turn -/
theorem low_turn (hl : GL g tg tg3 js) {F : Hp} {ρ : Rho} {E : Ends3} (k : EndsL g F ρ σ H E D) {Pv : Nat → Rho → Prop} {i : Nat} {F' : Hp} {ρ' : Rho} {σ' : L2.St} {H' : Hp} {d : D3} {v : V} (s : Stp g F ρ σ H F' ρ' σ' H') (im : Im g F' d v)
    (h : tg3 d ρ' fun ρ2 => tb { E with nx := Pv (i + 1), ct := Pv (i + 1), bk := E.nx } ρ2) {N : L2.St → Hp → Prop} (hN : ∀ F2 ρ2 σ2 H2, Stp g F' ρ' σ' H' F2 ρ2 σ2 H2 → Pv (i + 1) ρ2 → N σ2 H2) :
    tg v σ' H' fun σ2 H2 => lowS g tb { D with nx := N, ct := N, bk := D.nx } σ2 H2 := by
  refine hl F' ρ' σ' H' d v _ _ s.fr im h fun ρ2 σ2 hq s2 _ => ⟨F', ρ2, _, s2.fr, hq, ?_⟩
  exact ⟨fun _ _ _ _ hh z => hN _ _ _ _ (s2.trans z) hh, fun _ _ _ _ _ _ hh z q => k.rt _ _ _ _ _ _ hh ((s.trans s2).trans z) (q.trans (s.trans s2)), fun _ _ _ _ hh z => k.nx _ _ _ _ hh ((s.trans s2).trans z), fun _ _ _ _ hh z => hN _ _ _ _ (s2.trans z) hh⟩
theorem low_forL (hl : GL g tg tg3 js) (h : lowS g (forL3 src tg3 tb) D σ H) : tFor (iList g.K (low g src)) tg (lowS g tb) D σ H := by
  obtain ⟨F, ρ, E, fr, q, k⟩ := h
  refine ⟨F, ρ, _, fr, q, fun r ρ1 F1 H1 v h s1 r1 => ?_⟩
  obtain ⟨ds, hi, Pv, p0, turn, done⟩ := h
  obtain ⟨F2, p, vs, rfl, s2, h2, h3⟩ := items_fz s1 r1 hi
  refine ⟨p, rfl, ⟨vs, s2.fr.ex.seq h2⟩, for_list (fun i σ' H' => ∃ F' ρ', Stp g F2 ρ1 σ H1 F' ρ' σ' H' ∧ Pv i ρ') ⟨F2, ρ1, Stp.refl s2.fr, p0⟩ (fun i σ' H' _ ⟨F', ρ', s, _⟩ => s.fr.ex.seq (s.fx.seq h2)) ?_ ?_⟩
  · rintro i x σ' H' hx ⟨F', ρ', s, hp⟩
    obtain ⟨d, hd, im⟩ := h3.get' hx
    exact low_turn hl k (Pv := Pv) (s2.trans s) (Im.mono s.fx _ _ im) (turn i d ρ' hd hp) fun F3 ρ3 σ3 H3 s3 p3 => ⟨F3, ρ3, s.trans s3, p3⟩
  · rintro σ' H' ⟨F', ρ', s, hp⟩
    rw [← h3.length] at hp
    exact k.nx _ _ _ _ (done ρ' hp) (s2.trans s)
theorem low_forT (hl : GL g tg tg3 js) (h : lowS g (forT3 src tg3 tb) D σ H) : tFor (iTup g.K (low g src)) tg (lowS g tb) D σ H := by
  obtain ⟨F, ρ, E, fr, q, k⟩ := h
  refine ⟨F, ρ, _, fr, q, fun r ρ1 F1 H1 v h s1 r1 => ?_⟩
  obtain ⟨ds, rfl, Pv, p0, turn, done⟩ := h
  obtain ⟨p, vs, rfl, h2, h3⟩ := rep_tup r1.rep
  refine ⟨p, rfl, ⟨vs, SqT.of (s1.fr.ex _ _ h2)⟩, for_tup (fun i σ' H' => ∃ F' ρ', Stp g F1 ρ1 σ H1 F' ρ' σ' H' ∧ Pv i ρ') ⟨F1, ρ1, Stp.refl s1.fr, p0⟩ (fun i σ' H' _ ⟨F', ρ', s, _⟩ => SqT.of (s.fr.ex _ _ (s.fx _ _ h2))) ?_ ?_⟩
  · rintro i x σ' H' hx ⟨F', ρ', s, hp⟩
    obtain ⟨d, hd, im⟩ := h3.get' hx
    exact low_turn hl k (Pv := Pv) (s1.trans s) (Im.mono s.fx _ _ im) (turn i d ρ' hd hp) fun F3 ρ3 σ3 H3 s3 p3 => ⟨F3, ρ3, s.trans s3, p3⟩
  · rintro σ' H' ⟨F', ρ', s, hp⟩
    rw [← h3.length] at hp
    exact k.nx _ _ _ _ (done ρ' hp) (s1.trans s)
theorem rg_get {n lo i : Nat} (h : i < n) : ((List.range n).map fun k => D3.int ((lo + k : Nat)))[i]? = some (.int ((lo + i : Nat))) := by
  rw [List.getElem?_map, List.getElem?_range h]
  rfl
theorem low_forR1 (hl : GL g tg tg3 js) (h : lowS g (forR1 te tg3 tb) D σ H) : tFor (iRng1 (tCons (low g te) tNil)) tg (lowS g tb) D σ H := by
  obtain ⟨F, ρ, E, fr, q, k⟩ := h
  refine ⟨F, ρ, _, fr, q, fun r ρ1 F1 H1 v h s1 r1 => ?_⟩
  obtain ⟨n, rfl, hn, Pv, p0, turn, done⟩ := h
  have e := rep_int r1.rep
  subst e
  refine ⟨n, rfl, by omega, by omega, for_range (lo := 0) (n := (n : Int).toNat) (fun i σ' H' => ∃ F' ρ', Stp g F1 ρ1 σ H1 F' ρ' σ' H' ∧ Pv i ρ') ⟨F1, ρ1, Stp.refl s1.fr, p0⟩ ?_ ?_⟩
  · rintro i σ' H' hx ⟨F', ρ', s, hp⟩
    have hi : i < n := by omega
    have e : ((0 : Int) + (i : Nat)) = ((0 + i : Nat) : Int) := by omega
    rw [e]
    have hd := rg_get (lo := 0) hi
    simp only [Nat.zero_add] at hd ⊢
    exact low_turn hl k (Pv := Pv) (s1.trans s) (im_int _ _) (turn i _ ρ' hd hp) fun F3 ρ3 σ3 H3 s3 p3 => ⟨F3, ρ3, s.trans s3, p3⟩
  · rintro σ' H' ⟨F', ρ', s, hp⟩
    have e : (n : Int).toNat = ((List.range n).map fun k => D3.int (k : Nat)).length := by simp
    rw [e] at hp
    exact k.nx _ _ _ _ (done ρ' hp) (s1.trans s)
theorem low_forR2 {ta : TE3} (hl : GL g tg tg3 js) (h : lowS g (forR2 ta te tg3 tb) D σ H) : tFor (iRng2 (tCons (low g ta) (tCons (low g te) tNil))) tg (lowS g tb) D σ H := by
  obtain ⟨F, ρ, E, fr, q, k⟩ := h
  refine ⟨F, ρ, _, fr, q, fun r ρ0 F0 H0 v0 h s0 r0 => ⟨F0, ρ0, _, s0.fr, h, fun r2 ρ1 F1 H1 v h s1 r1 => ?_⟩⟩
  obtain ⟨lo, n, rfl, rfl, hlo, hn, Pv, p0, turn, done⟩ := h
  have e := rep_int r1.rep
  subst e
  have e := rep_int r0.rep
  subst e
  have s01 := s0.trans s1
  refine ⟨lo, n, rfl, ⟨by omega, by omega, by omega, by omega⟩, for_range (lo := lo) (n := ((n : Int) - lo).toNat) (fun i σ' H' => ∃ F' ρ', Stp g F1 ρ1 σ H1 F' ρ' σ' H' ∧ Pv i ρ') ⟨F1, ρ1, Stp.refl s1.fr, p0⟩ ?_ ?_⟩
  · rintro i σ' H' hx ⟨F', ρ', s, hp⟩
    have hi : i < n - lo := by omega
    have e : ((lo : Int) + (i : Nat)) = ((lo + i : Nat) : Int) := by omega
    rw [e]
    exact low_turn hl k (Pv := Pv) (s01.trans s) (im_int _ _) (turn i _ ρ' (rg_get hi) hp) fun F3 ρ3 σ3 H3 s3 p3 => ⟨F3, ρ3, s.trans s3, p3⟩
  · rintro σ' H' ⟨F', ρ', s, hp⟩
    have e : ((n : Int) - lo).toNat = ((List.range (n - lo)).map fun k => D3.int ((lo + k : Nat))).length := by rw [List.length_map, List.length_range]; omega
    rw [e] at hp
    exact k.nx _ _ _ _ (done ρ' hp) (s01.trans s)
end
section
variable {X : Cx} {C : Addr} {iter tgt a b : Expr} {body : List Stmt} {src ta te : TE3} {tg : TG} {tg3 : TG3} {tb : TS3} {js : List Nat} {pos p cpos : Pos}
theorem xs_forL (hp : PassesOwn (model X.prog X.w) X.A X.env X.xe) (hc : X.calm = true) (hi : XE X C iter src) (hg : PG X tgt tg) (hl : GL (gx X C) tg tg3 js) (hb : XSs X C body tb) (hs : ∀ x, foldedSetIterable iter X.env x = pure x := by intro _; rfl) : XS X C (.For tgt iter body [] pos) (forL3 src tg3 tb) :=
  PS.of (ps_for hp hc (pi_list hi) hg hb hs) fun _ _ _ => low_forL hl
theorem xs_forT (hp : PassesOwn (model X.prog X.w) X.A X.env X.xe) (hc : X.calm = true) (hi : XE X C iter src) (hg : PG X tgt tg) (hl : GL (gx X C) tg tg3 js) (hb : XSs X C body tb) (hs : ∀ x, foldedSetIterable iter X.env x = pure x := by intro _; rfl) : XS X C (.For tgt iter body [] pos) (forT3 src tg3 tb) :=
  PS.of (ps_for hp hc (pi_tup hi) hg hb hs) fun _ _ _ => low_forT hl
theorem xs_forR1 (hp : PassesOwn (model X.prog X.w) X.A X.env X.xe) (hc : X.calm = true) (hgl : Gl X "range") (hm : X.mg "range" = none) (ha : XE X C a te) (hg : PG X tgt tg) (hl : GL (gx X C) tg tg3 js) (hb : XSs X C body tb)
    (h1 : starEach [a] X.env = (false, eval a X.env) :: starEach [] X.env := by rfl) (h2 : starEach [a] X.env = [(false, eval a X.env)] := by rfl) (hs : ∀ x, foldedSetIterable (.Call (.Name "range" p) [a] [] cpos) X.env x = pure x := by intro _; rfl) : XS X C (.For tgt (.Call (.Name "range" p) [a] [] cpos) body [] pos) (forR1 te tg3 tb) :=
  PS.of (ps_for hp hc (pi_range1 hgl hm (pa_cons ha pa_nil h1) h2) hg hb hs) fun _ _ _ => low_forR1 hl
theorem xs_forR2 (hp : PassesOwn (model X.prog X.w) X.A X.env X.xe) (hc : X.calm = true) (hgl : Gl X "range") (hm : X.mg "range" = none) (ha : XE X C a ta) (hbb : XE X C b te) (hg : PG X tgt tg) (hl : GL (gx X C) tg tg3 js) (hb : XSs X C body tb)
    (h1 : starEach [a, b] X.env = (false, eval a X.env) :: starEach [b] X.env := by rfl) (h2 : starEach [b] X.env = (false, eval b X.env) :: starEach [] X.env := by rfl) (h3 : starEach [a, b] X.env = [(false, eval a X.env), (false, eval b X.env)] := by rfl) (h4 : starEach [b] X.env = [(false, eval b X.env)] := by rfl)
    (hs : ∀ x, foldedSetIterable (.Call (.Name "range" p) [a, b] [] cpos) X.env x = pure x := by intro _; rfl) : XS X C (.For tgt (.Call (.Name "range" p) [a, b] [] cpos) body [] pos) (forR2 ta te tg3 tb) :=
  PS.of (ps_for hp hc (pi_range2 hgl hm (pa_cons ha (pa_cons hbb pa_nil h2) h1) h3 h4) hg hb hs) fun _ _ _ => low_forR2 hl
end
end L3

set_option Elab.async false
set_option autoImplicit false
set_option linter.all false
set_option maxRecDepth 100000
/-! L3, part g: list comprehensions. -/
namespace L3
open PySem PySem.Spec L2

def wipe3 (ρ : Rho) : List Nat → Rho
  | [] => ρ
  | v :: vs => (wipe3 ρ vs).set v none
theorem wipe3_length (ρ : Rho) : ∀ vs : List Nat, (wipe3 ρ vs).length = ρ.length
  | [] => rfl
  | v :: vs => by unfold wipe3; rw [List.length_set, wipe3_length ρ vs]
theorem wipe3_get (ρ : Rho) : ∀ (vs : List Nat) (i : Nat), (wipe3 ρ vs)[i]? = if i ∈ vs ∧ i < ρ.length then some none else ρ[i]?
  | [], i => by simp [wipe3]
  | v :: vs, i => by
    unfold wipe3
    by_cases h : v = i
    · subst h
      by_cases hl : v < ρ.length
      · rw [List.getElem?_set_self (by rw [wipe3_length]; exact hl), if_pos ⟨List.mem_cons_self, hl⟩]
      · rw [List.getElem?_eq_none (by rw [List.length_set, wipe3_length]; omega), if_neg (fun z => hl z.2), List.getElem?_eq_none (by omega)]
    · rw [List.getElem?_set_ne h, wipe3_get ρ vs i]
      by_cases hm : i ∈ vs
      · by_cases hl : i < ρ.length
        · rw [if_pos ⟨hm, hl⟩, if_pos ⟨List.mem_cons_of_mem _ hm, hl⟩]
        · rw [if_neg (fun z => hl z.2), if_neg (fun z => hl z.2)]
      · rw [if_neg (fun z => hm z.1), if_neg (fun z => ?_)]
        rcases List.mem_cons.mp z.1 with q | q
        · exact h q.symm
        · exact hm q
theorem wipe3_some {ρ : Rho} {vs : List Nat} {i : Nat} {r : R3} (h : (wipe3 ρ vs)[i]? = some (some r)) : ρ[i]? = some (some r) ∧ i ∉ vs := by
  rw [wipe3_get] at h
  by_cases c : i ∈ vs ∧ i < ρ.length
  · rw [if_pos c] at h
    cases h
  · rw [if_neg c] at h
    refine ⟨h, fun m => c ⟨m, ?_⟩⟩
    have z := List.getElem?_eq_some_iff.mp h
    exact z.1
theorem wipe3_same {ρ ρ' : Rho} {vs : List Nat} (h : wipe3 ρ vs = wipe3 ρ' vs) {i : Nat} (hi : i ∉ vs) : ρ[i]? = ρ'[i]? := by
  have := congrArg (fun l : Rho => l[i]?) h
  simp only [wipe3_get] at this
  rwa [if_neg (fun z => hi z.1), if_neg (fun z => hi z.1)] at this
theorem wipe_same {σ σ' : L2.St} {vs : List Nat} (h : wipe σ vs = wipe σ' vs) {i : Nat} (hi : i ∉ vs) : σ[i]? = σ'[i]? := by
  have := congrArg (fun l : L2.St => l[i]?) h
  simp only [wipe_get] at this
  rwa [if_neg (fun z => hi z.1), if_neg (fun z => hi z.1)] at this
section
variable {g : Gx} {F F' F1 F2 F3 H H' H1 H2 H3 : Hp} {ρ ρ1 ρ2 ρ' : Rho} {σ σ2 σ' : L2.St} {vs : List Nat} {Dl : Addr}
theorem own_wipe {p : Addr} (h : Own (wipe3 ρ vs) (wipe σ vs) p) : ∃ i r, i ∉ vs ∧ ρ[i]? = some (some r) ∧ r.own = true ∧ σ[i]? = some (some (.ref p)) := by
  obtain ⟨i, r, e1, e2, e3⟩ := h
  obtain ⟨e1, hi⟩ := wipe3_some e1
  exact ⟨i, r, hi, e1, e2, (wipe_some e3).1⟩
theorem Frm.wipe (fr : Frm g F ρ σ H) (vs : List Nat) : Frm g F (wipe3 ρ vs) (L2.wipe σ vs) H := by
  refine ⟨fr.ex, by rw [wipe3_length, wipe_length]; exact fr.len, fun i r e => ?_, fun i j r r' p hij e1 o1 s1 e2 o2 s2 => ?_⟩
  · obtain ⟨e, hi⟩ := wipe3_some e
    obtain ⟨v, e1, e2⟩ := fr.rep i r e
    refine ⟨v, ?_, e2⟩
    rw [wipe_get, if_neg (fun z => hi z.1)]
    exact e1
  · exact fr.sep i j r r' p hij (wipe3_some e1).1 o1 (wipe_some s1).1 (wipe3_some e2).1 o2 (wipe_some s2).1
/-- what a block did, told outside of it -/
theorem Stp.unblock (fr : Frm g F' ρ1 σ H') (hw3 : wipe3 ρ2 vs = wipe3 ρ1 vs) (hw : L2.wipe σ2 vs = L2.wipe σ vs) (ho : ∀ p, H' p ≠ none → Own ρ2 σ2 p → ∃ i r, i ∉ vs ∧ ρ1[i]? = some (some r) ∧ r.own = true ∧ σ[i]? = some (some (.ref p)))
    (s : Stp g F' ρ2 σ2 H' F2 ρ2 σ2 H2) : Stp g F' ρ1 σ H' F2 ρ1 σ H2 := by
  have no : ∀ a, H' a ≠ none → ¬ Own ρ1 σ a → ¬ Own ρ2 σ2 a := fun a h1 n q => by
    obtain ⟨i, r, _, e1, e2, e3⟩ := ho a h1 q
    exact n ⟨i, r, e1, e2, e3⟩
  refine ⟨s.fx, ⟨s.fr.ex, fr.len, fun i r e => ?_, fr.sep⟩, fun a o h n => s.keep a o h (no a (by rw [h]; exact fun z => nomatch z) n), s.dom, fun a h1 h2 n => s.fresh a h1 h2 (no a h2 n), fun a h => .inr h⟩
  obtain ⟨v, e1, e2⟩ := fr.rep i r e
  refine ⟨v, e1, ?_⟩
  by_cases hi : i ∈ vs
  · refine e2.stay s.fx fun p o h1 h2 h3 => ?_
    have n : ¬ Own ρ2 σ2 p := fun q => by
      obtain ⟨j, r', hj, e4, e5, e6⟩ := ho p (by rw [h3]; exact fun z => nomatch z) q
      subst h2
      exact fr.sep i j r r' p (fun z => hj (z ▸ hi)) e h1 e1 e4 e5 e6
    obtain ⟨p', u, z1, z2, z3⟩ := e2.there h1
    rw [h2] at z1
    cases z1
    exact ⟨s.keep p o h3 n, s.fresh p z2 (by rw [h3]; exact fun z => nomatch z) n⟩
  · have q1 : ρ2[i]? = some (some r) := by rw [wipe3_same hw3 hi]; exact e
    obtain ⟨v', e4, e5⟩ := s.fr.rep i r q1
    rw [wipe_same hw hi, e1] at e4
    cases e4
    exact e5
/-- an object that nobody has is written -/
theorem Stp.poke {o : HO} (s : Stp g F ρ σ H F' ρ' σ' H') (h0 : H Dl = none) (h1 : F' Dl = none) (h2 : ¬ Own ρ' σ' Dl) : Stp g F ρ σ H F' ρ' σ' (upd H' Dl o) := by
  refine ⟨s.fx, ⟨Same.mut s.fr.ex h1, s.fr.len, fun i r e => ?_, s.fr.sep⟩, fun a u e n => ?_, fun a e => ?_, s.fresh, s.own⟩
  · obtain ⟨v, e1, e2⟩ := s.fr.rep i r e
    refine ⟨v, e1, e2.stay (Same.refl _) fun p u o1 z1 z2 => ?_⟩
    subst z1
    have hp : p ≠ Dl := fun q => h2 (q ▸ ⟨i, r, e, o1, e1⟩)
    rw [upd_ne hp]
    obtain ⟨p', u', y1, y2, _⟩ := e2.there o1
    cases y1
    exact ⟨z2, y2⟩
  · have ha : a ≠ Dl := ne_of_none e h0
    rw [upd_ne ha]
    exact s.keep a u e n
  · by_cases ha : a = Dl
    · rw [ha]; exact h0
    · rw [upd_ne ha] at e
      exact s.dom a e
end
def yes3 : TT3 := fun ρ Q => Q true ρ
def compTurn (tg3 : TG3) (tt : TT3) (te : TE3) (vs : List Nat) (ρ1 : Rho) (f : D3 → Option D3) (d : D3) : Prop :=
  tg3 d (wipe3 ρ1 vs) fun ρ2 => wipe3 ρ2 vs = wipe3 ρ1 vs ∧ tt ρ2 fun b ρ3 => ρ3 = ρ2 ∧ if b = true then te ρ2 fun r ρ4 => ρ4 = ρ2 ∧ ∃ y, r = .im y ∧ f d = some y else f d = none
def comp3 (ds : List D3) (tg3 : TG3) (tt : TT3) (te : TE3) (vs : List Nat) (ρ1 : Rho) (Q : R3 → Rho → Prop) : Prop :=
  ds.length ≤ 100000 ∧ ∃ f : D3 → Option D3, (∀ d ∈ ds, compTurn tg3 tt te vs ρ1 f d) ∧ Q (.ls (ds.filterMap f)) ρ1
def lcL3 (src : TE3) (tg3 : TG3) (tt : TT3) (te : TE3) (vs : List Nat) : TE3 := fun ρ Q => src ρ fun r ρ1 => ∃ ds, r.items = some ds ∧ comp3 ds tg3 tt te vs ρ1 Q
def lcT3 (src : TE3) (tg3 : TG3) (tt : TT3) (te : TE3) (vs : List Nat) : TE3 := fun ρ Q => src ρ fun r ρ1 => ∃ ds, r = .im (.tup ds) ∧ comp3 ds tg3 tt te vs ρ1 Q
def lcR1 (tn : TE3) (tg3 : TG3) (tt : TT3) (te : TE3) (vs : List Nat) : TE3 := fun ρ Q => tn ρ fun r ρ1 => ∃ n : Nat, r = .im (.int n) ∧ comp3 ((List.range n).map fun k => .int (k : Nat)) tg3 tt te vs ρ1 Q
/-- what stands between two turns -/
def Cv (g : Gx) (F1 : Hp) (ρ1 : Rho) (σ : L2.St) (H1 : Hp) (Dl : Addr) (xs : List D3) (H' : Hp) : Prop :=
  ∃ F' us, Stp g F1 ρ1 σ H1 F' ρ1 σ H' ∧ F' Dl = none ∧ H' Dl = some (.lst us) ∧ Ims g F' xs us
section
variable {g : Gx} {F1 H1 : Hp} {ρ1 : Rho} {σ : L2.St} {Dl : Addr} {tg : TG} {tg3 : TG3} {tt : TT3} {te : TE3} {js vs : List Nat}
theorem cv_start (fr : Frm g F1 ρ1 σ H1) (h : H1 Dl = none) : Cv g F1 ρ1 σ H1 Dl [] (upd H1 Dl (.lst [])) := ⟨F1, [], Stp.newO fr h, fr.ex.free h, upd_same, Ims.nil⟩
theorem cv_turn (fr : Frm g F1 ρ1 σ H1) (h0 : H1 Dl = none) (hl : GL g tg tg3 js) (hj : ∀ j ∈ js, j ∈ vs) {xs : List D3} {H' : Hp} (c : Cv g F1 ρ1 σ H1 Dl xs H') (hz : xs.length < 100000) {f : D3 → Option D3} {d : D3} {v : V} (im : Im g F1 d v) (ht : compTurn tg3 tt te vs ρ1 f d) {N : Hp → Prop}
    (hN : ∀ H2, Cv g F1 ρ1 σ H1 Dl (xs ++ (f d).toList) H2 → N H2) : tg v (L2.wipe σ vs) H' fun σ2 H2 => L2.wipe σ2 vs = L2.wipe σ vs ∧ lowT g tt σ2 H2 fun b H3 =>
      if b = true then low g te σ2 H3 fun y H4 => ∃ acc, H4 Dl = some (.lst acc) ∧ acc.length < sizeLine ∧ N (upd H4 Dl (.lst (acc ++ [y]))) else N H3 := by
  obtain ⟨F', us, s, c1, c2, c3⟩ := c
  have el := c3.length
  refine hl F' (wipe3 ρ1 vs) (L2.wipe σ vs) H' d v _ _ (s.fr.wipe vs) (Im.mono s.fx _ _ im) ht fun ρ2 σ2 hq s2 hwp => ?_
  obtain ⟨hw3, hq⟩ := hq
  have hw : L2.wipe σ2 vs = L2.wipe σ vs := by rw [hwp vs hj, wipe_wipe]
  have ho : ∀ p, H' p ≠ none → Own ρ2 σ2 p → ∃ i r, i ∉ vs ∧ ρ1[i]? = some (some r) ∧ r.own = true ∧ σ[i]? = some (some (.ref p)) := fun p h1 h2 => (s2.own p h2).elim (fun z => absurd z h1) own_wipe
  have nD : H' Dl ≠ none := by rw [c2]; exact fun z => nomatch z
  have nO : ¬ Own ρ1 σ Dl := fr.own_ne h0
  have nO2 : ¬ Own ρ2 σ2 Dl := fun q => by
    obtain ⟨i, r, _, e1, e2, e3⟩ := ho Dl nD q
    exact nO ⟨i, r, e1, e2, e3⟩
  refine ⟨hw, F', ρ2, _, s2.fr, hq, fun b ρ3 F3 H3 hb s3 => ?_⟩
  obtain ⟨rfl, hb⟩ := hb
  have s3' := Stp.unblock s.fr hw3 hw ho s3
  cases b with
  | false =>
    refine hN _ ?_
    have e : xs ++ (f d).toList = xs := by
      have hb : f d = none := hb
      rw [hb]
      exact List.append_nil _
    rw [e]
    exact ⟨F3, us, s.trans s3', s3.fresh _ c1 nD nO2, s3.keep _ _ c2 nO2, Ims.mono s3.fx _ _ c3⟩
  | true =>
    refine ⟨F3, ρ3, _, s3.fr, hb, fun r ρ4 F4 H4 y h4 s4 r4 => ?_⟩
    obtain ⟨rfl, z, rfl, hf⟩ := h4
    have s34 := s3.trans s4
    have s4' := Stp.unblock s.fr hw3 hw ho s34
    have k4 := s34.keep _ _ c2 nO2
    refine ⟨us, k4, line_lt (by omega), hN _ ?_⟩
    have e : xs ++ (f d).toList = xs ++ [z] := by rw [hf]; rfl
    rw [e]
    have f4 := s34.fresh _ c1 nD nO2
    exact ⟨F4, us ++ [y], Stp.poke (s.trans s4') h0 f4 nO, f4, upd_same, (Ims.mono s34.fx _ _ c3).append (Ims.cons r4.rep Ims.nil)⟩
theorem fm_take {f : D3 → Option D3} {ds : List D3} {i : Nat} {d : D3} (h : ds[i]? = some d) : (ds.take (i + 1)).filterMap f = (ds.take i).filterMap f ++ (f d).toList := by
  have e : List.filterMap f (some d).toList = (f d).toList := by
    show List.filterMap f [d] = _
    rw [List.filterMap_cons]
    cases f d with
    | none => rfl
    | some y => rfl
  rw [List.take_add_one, h, List.filterMap_append, e]
theorem fm_len (f : D3 → Option D3) (ds : List D3) (i : Nat) : ((ds.take i).filterMap f).length ≤ ds.length := by
  refine Nat.le_trans (List.length_filterMap_le _ _) ?_
  rw [List.length_take]
  exact Nat.min_le_right _ _
theorem cv_done {F H : Hp} {ρ : Rho} {σ' : L2.St} {Q3 : R3 → Rho → Prop} {Q : VK} {ds : List D3} {H' : Hp} (s : Stp g F ρ σ' H F1 ρ1 σ' H1) (h0 : H1 Dl = none) (c : Cv g F1 ρ1 σ' H1 Dl ds H')
    (k : ∀ r ρ' F' H' v, Q3 r ρ' → Stp g F ρ σ' H F' ρ' σ' H' → Res g F' H' ρ' σ' r v ρ σ' H → Q v H') (q : Q3 (.ls ds) ρ1) : Q (.ref Dl) H' := by
  obtain ⟨F', us, s1, c1, c2, c3⟩ := c
  exact k _ _ _ _ _ q (s.trans s1) ⟨⟨Dl, us, rfl, c1, c2, c3⟩, fun _ p e => by cases e; exact ⟨s.fr.own_ne h0, .inl (s.dom _ h0)⟩⟩
end
section
variable {g : Gx} {σ : L2.St} {H : Hp} {Q : VK} {tg : TG} {tg3 : TG3} {tt : TT3} {te src tn : TE3} {js vs : List Nat}
theorem low_lcL (hl : GL g tg tg3 js) (hj : ∀ j ∈ js, j ∈ vs) (h : low g (lcL3 src tg3 tt te vs) σ H Q) : tLc (iList g.K (low g src)) tg (lowT g tt) (low g te) vs σ H Q := by
  obtain ⟨F, ρ, Q3, fr, q, k⟩ := h
  refine ⟨F, ρ, _, fr, q, fun r ρ1 F1 H1 v h s1 r1 => ?_⟩
  obtain ⟨ds, hi, hz, f, ht, hq⟩ := h
  obtain ⟨F2, p, us, rfl, s2, h2, h3⟩ := items_fz s1 r1 hi
  refine ⟨p, rfl, ⟨us, s2.fr.ex.seq h2⟩, fun Dl hD => ?_⟩
  refine lc_list (xs := us) (fun i H' => Cv g F2 ρ1 σ H1 Dl ((ds.take i).filterMap f) H') (by simpa using cv_start s2.fr hD) (fun i H' _ ⟨F', _, s, _⟩ => s.fr.ex.seq (s.fx.seq h2)) ?_ ?_
  · intro i x H' hx c
    obtain ⟨d, hd, im⟩ := h3.get' hx
    have hlen := fm_len f ds i
    have hi' := (List.getElem?_eq_some_iff.mp hd).1
    refine cv_turn s2.fr hD hl hj c ?_ im (ht d (List.mem_of_getElem? hd)) fun H2 c2 => by rw [fm_take hd]; exact c2
    refine Nat.lt_of_le_of_lt (List.length_filterMap_le _ _) ?_
    rw [List.length_take]
    omega
  · intro H' c
    rw [← h3.length, List.take_length] at c
    exact cv_done s2 hD c k hq
theorem low_lcT (hl : GL g tg tg3 js) (hj : ∀ j ∈ js, j ∈ vs) (h : low g (lcT3 src tg3 tt te vs) σ H Q) : tLc (iTup g.K (low g src)) tg (lowT g tt) (low g te) vs σ H Q := by
  obtain ⟨F, ρ, Q3, fr, q, k⟩ := h
  refine ⟨F, ρ, _, fr, q, fun r ρ1 F1 H1 v h s1 r1 => ?_⟩
  obtain ⟨ds, rfl, hz, f, ht, hq⟩ := h
  obtain ⟨p, us, rfl, h2, h3⟩ := rep_tup r1.rep
  refine ⟨p, rfl, ⟨us, SqT.of (s1.fr.ex _ _ h2)⟩, fun Dl hD => ?_⟩
  refine lc_tup (xs := us) (fun i H' => Cv g F1 ρ1 σ H1 Dl ((ds.take i).filterMap f) H') (by simpa using cv_start s1.fr hD) (fun i H' _ ⟨F', _, s, _⟩ => SqT.of (s.fr.ex _ _ (s.fx _ _ h2))) ?_ ?_
  · intro i x H' hx c
    obtain ⟨d, hd, im⟩ := h3.get' hx
    have hi' := (List.getElem?_eq_some_iff.mp hd).1
    refine cv_turn s1.fr hD hl hj c ?_ im (ht d (List.mem_of_getElem? hd)) fun H2 c2 => by rw [fm_take hd]; exact c2
    refine Nat.lt_of_le_of_lt (List.length_filterMap_le _ _) ?_
    rw [List.length_take]
    omega
  · intro H' c
    rw [← h3.length, List.take_length] at c
    exact cv_done s1 hD c k hq
theorem low_lcR1 (hl : GL g tg tg3 js) (hj : ∀ j ∈ js, j ∈ vs) (h : low g (lcR1 tn tg3 tt te vs) σ H Q) : tLc (iRng1 (tCons (low g tn) tNil)) tg (lowT g tt) (low g te) vs σ H Q := by
  obtain ⟨F, ρ, Q3, fr, q, k⟩ := h
  refine ⟨F, ρ, _, fr, q, fun r ρ1 F1 H1 v h s1 r1 => ?_⟩
  obtain ⟨n, rfl, hz, f, ht, hq⟩ := h
  have e := rep_int r1.rep
  subst e
  rw [List.length_map, List.length_range] at hz
  refine ⟨n, rfl, by omega, by omega, fun Dl hD => ?_⟩
  refine lc_range (lo := 0) (n := (n : Int).toNat) (fun i H' => Cv g F1 ρ1 σ H1 Dl ((((List.range n).map fun k => D3.int (k : Nat)).take i).filterMap f) H') (by simpa using cv_start s1.fr hD) ?_ ?_
  · intro i H' hx c
    have hi : i < n := by omega
    have hd := rg_get (lo := 0) hi
    simp only [Nat.zero_add] at hd
    have e : ((0 : Int) + (i : Nat)) = ((i : Nat) : Int) := by omega
    rw [e]
    refine cv_turn s1.fr hD hl hj c ?_ (im_int _ _) (ht _ (List.mem_of_getElem? hd)) fun H2 c2 => by rw [fm_take hd]; exact c2
    refine Nat.lt_of_le_of_lt (List.length_filterMap_le _ _) ?_
    rw [List.length_take]
    omega
  · intro H' c
    have e : (n : Int).toNat = ((List.range n).map fun k => D3.int (k : Nat)).length := by rw [List.length_map, List.length_range]; omega
    rw [e, List.take_length] at c
    exact cv_done s1 hD c k hq
end
section
variable {X : Cx} {C : Addr} {elt tgt iter a : Expr} {ifs : List Expr} {scope : Scope} {own : List (Str × Nat)} {pos p cpos : Pos} {src te tn : TE3} {tg : TG} {tg3 : TG3} {tt : TT3} {js : List Nat}
theorem low_yes {g : Gx} {σ : L2.St} {H : Hp} {Q : Bool → Hp → Prop} (h : lowT g yes3 σ H Q) : tYes σ H Q := by
  obtain ⟨F, ρ, Q3, fr, q, k⟩ := h
  exact k _ _ _ _ q (Stp.refl fr)
theorem PTs.of {X : Cx} {e : List Expr} {t t' : TT} (h : PTs X e t) (k : ∀ σ H Q, t' σ H Q → t σ H Q) : PTs X e t' := ⟨fun pins s σ H Q I w => h.run pins s σ H Q I (k σ H Q w)⟩
theorem xts_nil : PTs X [] (lowT (gx X C) yes3) := PTs.of pts_nil fun _ _ _ => low_yes
theorem xts_one {c : Expr} {t : TT3} (h : XT X C c t) : PTs X [c] (lowT (gx X C) t) := pts_one h
/-- the block's parts -/
structure Blk (X : Cx) (C : Addr) (elt tgt : Expr) (ifs : List Expr) (scope : Scope) (tg : TG) (tt : TT3) (te : TE3) : Prop where
  hg : ∀ (s : Shared) (H : Hp) (B : Addr) (cl : List (Str × Addr)) (fp : List Addr), PG (X.blk s H scope (compEnvC scope cl B X.env) fp) tgt tg
  ht : ∀ (s : Shared) (H : Hp) (B : Addr) (cl : List (Str × Addr)) (fp : List Addr), PTs (X.blk s H scope (compEnvC scope cl B X.env) fp) ifs (lowT (gx X C) tt)
  he : ∀ (s : Shared) (H : Hp) (B : Addr) (cl : List (Str × Addr)) (fp : List Addr), PE (X.blk s H scope (compEnvC scope cl B X.env) fp) elt (low (gx X C) te)
theorem x_lcL (hN : X.N.Nodup) (hi : XE X C iter src) (ok : BlkOk X.N X.env.scope scope own) (hl : GL (gx X C) tg tg3 js) (hj : ∀ j ∈ js, j ∈ own.map (·.2)) (b : Blk X C elt tgt ifs scope tg tt te) (hc : X.calm = true := by rfl) (hs : ∀ x, foldedSetIterable iter X.env x = pure x := by intro _; rfl) :
    XE X C (.ListComp elt [⟨tgt, iter, ifs, 0⟩] scope pos) (lcL3 src tg3 tt te (own.map (·.2))) := PE.of (pe_lc hc hN (pi_list hi) ok b.hg b.ht b.he hs) fun _ _ _ => low_lcL hl hj
theorem x_lcT (hN : X.N.Nodup) (hi : XE X C iter src) (ok : BlkOk X.N X.env.scope scope own) (hl : GL (gx X C) tg tg3 js) (hj : ∀ j ∈ js, j ∈ own.map (·.2)) (b : Blk X C elt tgt ifs scope tg tt te) (hc : X.calm = true := by rfl) (hs : ∀ x, foldedSetIterable iter X.env x = pure x := by intro _; rfl) :
    XE X C (.ListComp elt [⟨tgt, iter, ifs, 0⟩] scope pos) (lcT3 src tg3 tt te (own.map (·.2))) := PE.of (pe_lc hc hN (pi_tup hi) ok b.hg b.ht b.he hs) fun _ _ _ => low_lcT hl hj
theorem x_lcR1 (hN : X.N.Nodup) (hgl : Gl X "range") (hm : X.mg "range" = none) (ha : XE X C a tn) (ok : BlkOk X.N X.env.scope scope own) (hl : GL (gx X C) tg tg3 js) (hj : ∀ j ∈ js, j ∈ own.map (·.2)) (b : Blk X C elt tgt ifs scope tg tt te) (hc : X.calm = true := by rfl)
    (h1 : starEach [a] X.env = (false, eval a X.env) :: starEach [] X.env := by rfl) (h2 : starEach [a] X.env = [(false, eval a X.env)] := by rfl) (hs : ∀ x, foldedSetIterable (.Call (.Name "range" p) [a] [] cpos) X.env x = pure x := by intro _; rfl) :
    XE X C (.ListComp elt [⟨tgt, .Call (.Name "range" p) [a] [] cpos, ifs, 0⟩] scope pos) (lcR1 tn tg3 tt te (own.map (·.2))) := PE.of (pe_lc hc hN (pi_range1 hgl hm (pa_cons ha pa_nil h1) h2) ok b.hg b.ht b.he hs) fun _ _ _ => low_lcR1 hl hj
/-- name = [..] -/
theorem xs_setLcT {y : Str} {py spos : Pos} (i : Nat) (hN : X.N.Nodup) (hi : XE X C iter src) (ok : BlkOk X.N X.env.scope scope own) (hl : GL (gx X C) tg tg3 js) (hj : ∀ j ∈ js, j ∈ own.map (·.2)) (b : Blk X C elt tgt ifs scope tg tt te) (hc : X.calm = true := by rfl) (hy : X.N[i]? = some y := by rfl) (hyl : X.env.scope.names.lookup y = some .local := by rfl)
    (hsw : swapsWith (.ListComp elt [⟨tgt, iter, ifs, 0⟩] scope pos) (some (.Name y py)) spos.line X.env = pure true := by exact sw_true rfl rfl rfl (by decide +kernel)) (hs : ∀ x, foldedSetIterable iter X.env x = pure x := by intro _; rfl) :
    XS X C (.Assign [.Name y py] (.ListComp elt [⟨tgt, iter, ifs, 0⟩] scope pos) spos) (asg3 (lcT3 src tg3 tt te (own.map (·.2))) i) :=
  PS.of (ps_setLc hc hN hy hyl hsw (pi_tup hi) ok b.hg b.ht b.he hs) fun D σ H h => by
    have := low_asg h
    exact low_lcT (g := gx X C) hl hj this
theorem xs_setLcR1 {y : Str} {py spos : Pos} (i : Nat) (hN : X.N.Nodup) (hgl : Gl X "range") (hm : X.mg "range" = none) (ha : XE X C a tn) (ok : BlkOk X.N X.env.scope scope own) (hl : GL (gx X C) tg tg3 js) (hj : ∀ j ∈ js, j ∈ own.map (·.2)) (b : Blk X C elt tgt ifs scope tg tt te) (hc : X.calm = true := by rfl) (hy : X.N[i]? = some y := by rfl) (hyl : X.env.scope.names.lookup y = some .local := by rfl)
    (hsw : swapsWith (.ListComp elt [⟨tgt, .Call (.Name "range" p) [a] [] cpos, ifs, 0⟩] scope pos) (some (.Name y py)) spos.line X.env = pure true := by exact sw_true rfl rfl rfl (by decide +kernel))
    (h1 : starEach [a] X.env = (false, eval a X.env) :: starEach [] X.env := by rfl) (h2 : starEach [a] X.env = [(false, eval a X.env)] := by rfl) (hs : ∀ x, foldedSetIterable (.Call (.Name "range" p) [a] [] cpos) X.env x = pure x := by intro _; rfl) :
    XS X C (.Assign [.Name y py] (.ListComp elt [⟨tgt, .Call (.Name "range" p) [a] [] cpos, ifs, 0⟩] scope pos) spos) (asg3 (lcR1 tn tg3 tt te (own.map (·.2))) i) :=
  PS.of (ps_setLc hc hN hy hyl hsw (pi_range1 hgl hm (pa_cons ha pa_nil h1) h2) ok b.hg b.ht b.he hs) fun D σ H h => by
    have := low_asg h
    exact low_lcR1 (g := gx X C) hl hj this
end
end L3

set_option Elab.async false
set_option autoImplicit false
set_option linter.all false
set_option maxRecDepth 100000
/-! L3, part h: defs and their calls, the tape, dicts that are filled. -/
namespace L3
open PySem PySem.Spec L2

/-! ### the promise of a def, told over data -/
def sp3 (g : Gx) (T : List D3 → (R3 → Prop) → Prop) : Sp := fun vs H Q _ => ∃ (F : Hp) (ds : List D3) (Q3 : R3 → Prop), Same F H ∧ Ims g F ds vs ∧ T ds Q3 ∧
  ∀ r F' H' v, Q3 r → Same H H' → Same F F' → Same F' H' → (∀ a, F a = none → H a ≠ none → F' a = none) → RepR g F' H' r v → (r.own = true → ∀ p, v = .ref p → H p = none) → Q v H'
def callF (T : List D3 → (R3 → Prop) → Prop) (ta : TA3) : TE3 := fun ρ Q => ta ρ fun ds ρ1 => T ds fun r => Q r ρ1
/-- a step by a callee that leaves all that it was not given -/
theorem Stp.callee {g : Gx} {F F' H H' : Hp} {ρ : Rho} {σ : L2.St} (fr : Frm g F ρ σ H) (e1 : Same H H') (e2 : Same F F') (e3 : Same F' H') (hf : ∀ a, F a = none → H a ≠ none → F' a = none) : Stp g F ρ σ H F' ρ σ H' := by
  refine ⟨e2, ⟨e3, fr.len, fun i r e => ?_, fr.sep⟩, fun a o h _ => e1 a o h, fun a h => e1.free h, fun a h1 h2 _ => hf a h1 h2, fun a h => .inr h⟩
  obtain ⟨v, h1, h2⟩ := fr.rep i r e
  refine ⟨v, h1, h2.stay e2 fun p o o1 z1 z2 => ⟨e1 _ _ z2, ?_⟩⟩
  obtain ⟨p', u, y1, y2, _⟩ := h2.there o1
  rw [z1] at y1
  cases y1
  exact hf p y2 (by rw [z2]; exact fun z => nomatch z)
theorem low_call {g : Gx} {σ : L2.St} {H : Hp} {Q : VK} {T : List D3 → (R3 → Prop) → Prop} {ta : TA3} {E : XK} (h : low g (callF T ta) σ H Q) : tCall (sp3 g T) [] E (lowA g ta) σ H Q := by
  obtain ⟨F, ρ, Q3, fr, q, k⟩ := h
  refine ⟨F, ρ, _, fr, q, fun ds ρ1 F1 H1 vs h s im => ?_⟩
  show sp3 g T (vs ++ []) H1 Q E
  rw [List.append_nil]
  refine ⟨F1, ds, _, s.fr.ex, im, h, fun r F' H' v hq e1 e2 e3 hf rep hown => ?_⟩
  exact k r ρ1 F' H' v hq (s.trans (Stp.callee s.fr e1 e2 e3 hf)) ⟨rep, fun o p e => ⟨s.fr.own_ne (hown o p e), .inl (s.dom _ (hown o p e))⟩⟩
section
variable {X : Cx} {C f : Addr} {k : Nat} {fd : FuncData} {ps : List Str} {T : List D3 → (R3 → Prop) → Prop} {x : Str} {p pos : Pos} {e : Expr} {es : List Expr} {ta : TA3}
theorem x_call (G : FnOk X.prog X.w X.K X.mg X.base CX0 k f fd ps (sp3 (gx X C) T)) (hr : Room k X.A) (hg : Gl X x) (hm : X.mg x = some (.ref f)) (hk : PySem.W.keepIn X.K (.ref f) = true) (hb : Binds X.K fd ps []) (ha : XA X C (e :: es) ta)
    (hdb : (x == ("__debug__" : Str)) = false := by decide) (he : starEach (e :: es) X.env = (false, eval e X.env) :: starEach es X.env := by rfl) (hpl : (backTo pos (starEach es X.env)).any (·.1) = false := by rfl) : XE X C (.Call (.Name x p) (e :: es) [] pos) (callF T ta) := PE.of (pe_call G hr hg hm hk hb .nil pass0 ha hdb he hpl) fun _ _ _ => low_call
end
/-! ### a def by its body -/
def start3 (N : List Str) (ds : List D3) : Rho := ds.map (fun d => some (.im d)) ++ List.replicate (N.length - ds.length) none
theorem start_get {N : List Str} {vs : List V} {i : Nat} {v : V} (h : vs[i]? = some v) : (L2.start N vs)[i]? = some (some v) := by
  unfold L2.start
  rw [List.getElem?_append_left (by rw [List.length_map]; exact (List.getElem?_eq_some_iff.mp h).1), List.getElem?_map, h]
  rfl
theorem start3_get {N : List Str} {ds : List D3} {i : Nat} {r : R3} (h : (start3 N ds)[i]? = some (some r)) : ∃ d, r = .im d ∧ ds[i]? = some d := by
  unfold start3 at h
  by_cases hi : i < ds.length
  · rw [List.getElem?_append_left (by rw [List.length_map]; exact hi), List.getElem?_map, List.getElem?_eq_getElem hi] at h
    refine ⟨ds[i], ?_, List.getElem?_eq_getElem hi⟩
    have h' : some (some (R3.im ds[i])) = some (some r) := h
    cases h'
    rfl
  · rw [List.getElem?_append_right (by rw [List.length_map]; omega), List.getElem?_replicate] at h
    split at h
    · cases h
    · cases h
theorem start_len {N : List Str} {vs : List V} (h : vs.length ≤ N.length) : (L2.start N vs).length = N.length := by
  unfold L2.start
  rw [List.length_append]; rw [List.length_map, List.length_replicate]
  omega
theorem frm_start {g : Gx} {N : List Str} {ds : List D3} {vs : List V} {F H : Hp} (e : Same F H) (im : Ims g F ds vs) (hl : ds.length ≤ N.length) : Frm g F (start3 N ds) (L2.start N vs) H := by
  refine ⟨e, ?_, fun i r h => ?_, fun i j r r' p hij e1 o1 => ?_⟩
  · rw [start_len (by rw [← im.length]; exact hl)]
    unfold start3
    rw [List.length_append]; rw [List.length_map, List.length_replicate]
    omega
  · obtain ⟨d, rfl, hd⟩ := start3_get h
    obtain ⟨v, hv, hm⟩ := im.get hd
    exact ⟨v, start_get hv, hm⟩
  · obtain ⟨d, rfl, _⟩ := start3_get e1
    cases o1
theorem start3_no {N : List Str} {ds : List D3} {σ : L2.St} {a : Addr} : ¬ Own (start3 N ds) σ a := fun ⟨i, r, e1, o1, _⟩ => by
  obtain ⟨d, rfl, _⟩ := start3_get e1
  cases o1
section
variable {P : Program} {w : World} {K : PySem.W.Frag} {mg : Str → Option Value} {base : Heap} {C : Addr}
theorem def3 {x qual : Str} {st : Stmt} {f : Addr} {fd : FuncData} {N ps : List Str} {k : Nat} {T : List D3 → (R3 → Prop) → Prop} {t : TS3} (F : Fun K x qual st f fd) (S : FnScope N ps (defScope st)) (len : ∀ ds Q, T ds Q → ds.length = ps.length) (hN : ps.length ≤ N.length)
    (hbody : ∀ (cdv : Value) (A : Around) (outer : List Env) (s : Shared) (H : Hp) (E : XK), Room k (A.deeper (PyProof.Rows.envOfC qual (defScope st) s.heap.objs.size f cdv)) → XSs (cxOf CX0 P w K mg base N qual (defScope st) f cdv A outer s H E).nox C (defBody st) t)
    (hread : ∀ ds Q, T ds Q → t { nx := fun _ => Q (.im .non), rt := fun r _ => Q r } (start3 N ds)) : FnOk P w K mg base CX0 (k + 1) f fd ps (sp3 ⟨K, C, P, w⟩ T) := by
  refine F.ok S (fun vs H Q E ⟨Fz, ds, Q3, _, im, hT, _⟩ => by rw [← im.length]; exact len ds Q3 hT) fun cdv A outer s H vs Q E hr h => ?_
  obtain ⟨Fz, ds, Q3, e, im, hT, kk⟩ := h
  have hl := len ds Q3 hT
  refine ⟨_, hbody cdv A outer s H E hr, Fz, start3 N ds, _, frm_start e im (by omega), hread ds Q3 hT, ?_⟩
  have keep : ∀ {F' H' : Hp} {ρ' : Rho} {σ' : L2.St}, Stp ⟨K, C, P, w⟩ Fz (start3 N ds) (L2.start N vs) H F' ρ' σ' H' → Same H H' ∧ Same Fz F' ∧ Same F' H' ∧ ∀ a, Fz a = none → H a ≠ none → F' a = none := fun s =>
    ⟨fun a o h => s.keep a o h start3_no, s.fx, s.fr.ex, fun a h1 h2 => s.fresh a h1 h2 start3_no⟩
  refine ⟨fun F' ρ' σ' H' hq s => ?_, fun F' ρ' σ' H' r v hq s rs => ?_, fun _ _ _ _ z => z.elim, fun _ _ _ _ z => z.elim⟩
  · obtain ⟨k1, k2, k3, k4⟩ := keep s
    exact kk _ F' H' .non hq k1 k2 k3 k4 (im_non (g := ⟨K, C, P, w⟩) F') fun o => nomatch o
  · obtain ⟨k1, k2, k3, k4⟩ := keep s
    exact kk _ F' H' v hq k1 k2 k3 k4 rs.rep fun o p ep => ((rs.own o p ep).2).elim id fun z => (start3_no z).elim
end
/-! ### defs that are handed the tape -/
def spT (g : Gx) (T : Tp → List D3 → (R3 → Tp → Prop) → Prop) : Sp := fun vs H Q _ => ∃ (F : Hp) (p : Addr) (t : Tp) (ds : List D3) (us : List V) (Q3 : R3 → Tp → Prop), vs = .ref p :: us ∧ Same F H ∧ RepR g F H (.tp p t) (.ref p) ∧ Ims g F ds us ∧ T t ds Q3 ∧
  ∀ r t' F' H' v, Q3 r t' → (∀ a o, H a = some o → a ≠ p → H' a = some o) → (∀ a, H' a = none → H a = none) → Same F F' → Same F' H' → (∀ a, F a = none → H a ≠ none → a ≠ p → F' a = none) → RepR g F' H' (.tp p t') (.ref p) → RepR g F' H' r v → (r.own = true → ∀ q, v = .ref q → H q = none) → Q v H'
def callT (i : Nat) (T : Tp → List D3 → (R3 → Tp → Prop) → Prop) (ta : TA3) : TE3 := fun ρ Q => (∃ p t, ρ[i]? = some (some (.tp p t))) ∧ ta ρ fun ds ρ1 => ∃ p t, ρ1[i]? = some (some (.tp p t)) ∧ T t ds fun r t' => Q r (ρ1.set i (some (.tp p t')))
theorem low_callT {g : Gx} {σ : L2.St} {H : Hp} {Q : VK} {i : Nat} {T : Tp → List D3 → (R3 → Tp → Prop) → Prop} {ta : TA3} {E : XK} (h : low g (callT i T ta) σ H Q) : tCall (spT g T) [] E (tCons (tVar i) (lowA g ta)) σ H Q := by
  obtain ⟨F, ρ, Q3, fr, ⟨⟨p0, t0, e0⟩, q⟩, k⟩ := h
  obtain ⟨x, ex, rx⟩ := fr.rep i _ e0
  have hx : x = .ref p0 := by
    obtain ⟨_, z, _⟩ := rx
    exact z
  subst hx
  refine ⟨.ref p0, ex, F, ρ, _, fr, q, fun ds ρ1 F1 H1 us h s im => ?_⟩
  obtain ⟨p, t, e1, h⟩ := h
  obtain ⟨x, ex', rx⟩ := s.fr.rep i _ e1
  rw [ex] at ex'
  cases ex'
  have hp : p0 = p := by
    obtain ⟨_, z, _⟩ := rx
    cases z
    rfl
  subst hp
  show spT g T ((.ref p0 :: us) ++ []) H1 Q E
  rw [List.append_nil]
  refine ⟨F1, p0, t, ds, us, _, rfl, s.fr.ex, rx, im, h, fun r t' F' H' v hq k1 k2 k3 k4 k5 rt rv hown => ?_⟩
  have own0 : Own ρ1 σ p0 := ⟨i, _, e1, rfl, ex⟩
  have hi : i < ρ1.length := (List.getElem?_eq_some_iff.mp e1).1
  have st : Stp g F1 ρ1 σ H1 F' (ρ1.set i (some (.tp p0 t'))) σ H' := by
    refine ⟨k3, ⟨k4, by rw [List.length_set]; exact s.fr.len, fun j r' e => ?_, fun a b r1 r2 q hab e1' o1 s1 e2' o2 s2 => ?_⟩, fun a o ha n => k1 a o ha fun z => n (z ▸ own0), k2, fun a h1 h2 n => k5 a h1 h2 fun z => n (z ▸ own0), fun a ⟨j, r', e, o, z⟩ => ?_⟩
    · by_cases hj : i = j
      · subst hj
        rw [List.getElem?_set_self hi] at e
        cases e
        exact ⟨_, ex, rt⟩
      · rw [List.getElem?_set_ne hj] at e
        obtain ⟨v', z1, z2⟩ := s.fr.rep j r' e
        refine ⟨v', z1, z2.stay k3 fun q o o1 y1 y2 => ?_⟩
        subst y1
        have hq : q ≠ p0 := fun z => by
          subst z
          exact s.fr.sep i j _ r' q hj e1 rfl ex e o1 z1
        obtain ⟨q', u, w1, w2, _⟩ := z2.there o1
        cases w1
        exact ⟨k1 q o y2 hq, k5 q w2 (by rw [y2]; exact fun z => nomatch z) hq⟩
    · have fix : ∀ {c : Nat} {r3 : R3}, (ρ1.set i (some (.tp p0 t')))[c]? = some (some r3) → r3.own = true → ∃ r4, ρ1[c]? = some (some r4) ∧ r4.own = true := fun {c r3} z1 z2 => by
        by_cases hc : i = c
        · subst hc
          exact ⟨_, e1, rfl⟩
        · rw [List.getElem?_set_ne hc] at z1
          exact ⟨r3, z1, z2⟩
      obtain ⟨r3, y1, y2⟩ := fix e1' o1
      obtain ⟨r4, y3, y4⟩ := fix e2' o2
      exact s.fr.sep a b r3 r4 q hab y1 y2 s1 y3 y4 s2
    · by_cases hj : i = j
      · subst hj
        exact .inr ⟨i, _, e1, rfl, z⟩
      · rw [List.getElem?_set_ne hj] at e
        exact .inr ⟨j, r', e, o, z⟩
  refine k r _ F' H' v hq (s.trans st) ⟨rv, fun o q e => ⟨fun z => ?_, .inl (s.dom _ (hown o q e))⟩⟩
  rcases st.own q z with y | y
  · obtain ⟨q', u, w1, w2, w3⟩ := rv.there o
    rw [e] at w1
    cases w1
    obtain ⟨j, r', e', o', z'⟩ := z
    by_cases hj : i = j
    · subst hj
      rw [ex] at z'
      cases z'
      exact absurd (hown o p0 e) (by
        obtain ⟨_, _, _, z, _⟩ := rx
        rw [z]
        exact fun w => nomatch w)
    · rw [List.getElem?_set_ne hj] at e'
      exact s.fr.own_ne y ⟨j, r', e', o', z'⟩
  · exact s.fr.own_ne (hown o q e) y
section
variable {X : Cx} {C f : Addr} {k : Nat} {fd : FuncData} {ps : List Str} {T : Tp → List D3 → (R3 → Tp → Prop) → Prop} {x : Str} {p pos : Pos} {e : Expr} {es : List Expr} {ta : TA3} {i : Nat}
theorem x_callT (G : FnOk X.prog X.w X.K X.mg X.base CX0 k f fd ps (spT (gx X C) T)) (hr : Room k X.A) (hg : Gl X x) (hm : X.mg x = some (.ref f)) (hk : PySem.W.keepIn X.K (.ref f) = true) (hb : Binds X.K fd ps []) (h0 : PE X e (tVar i)) (ha : XA X C es ta)
    (hdb : (x == ("__debug__" : Str)) = false := by decide) (he : starEach (e :: es) X.env = (false, eval e X.env) :: starEach es X.env := by rfl) (hpl : (backTo pos (starEach es X.env)).any (·.1) = false := by rfl) : XE X C (.Call (.Name x p) (e :: es) [] pos) (callT i T ta) := PE.of (pe_call G hr hg hm hk hb .nil pass0 (pa_cons h0 ha he) hdb he hpl) fun _ _ _ => low_callT
end
def startT (N : List Str) (p : Addr) (t : Tp) (ds : List D3) : Rho := some (.tp p t) :: (ds.map (fun d => some (.im d)) ++ List.replicate (N.length - (ds.length + 1)) none)
theorem startT_get {N : List Str} {p : Addr} {t : Tp} {ds : List D3} {i : Nat} {r : R3} (h : (startT N p t ds)[i + 1]? = some (some r)) : ∃ d, r = .im d ∧ ds[i]? = some d := by
  unfold startT at h
  rw [List.getElem?_cons_succ] at h
  by_cases hi : i < ds.length
  · rw [List.getElem?_append_left (by rw [List.length_map]; exact hi), List.getElem?_map, List.getElem?_eq_getElem hi] at h
    refine ⟨ds[i], ?_, List.getElem?_eq_getElem hi⟩
    have h' : some (some (R3.im ds[i])) = some (some r) := h
    cases h'
    rfl
  · rw [List.getElem?_append_right (by rw [List.length_map]; omega), List.getElem?_replicate] at h
    split at h
    · cases h
    · cases h
theorem startT_own {N : List Str} {p : Addr} {t : Tp} {ds : List D3} {σ : L2.St} {a : Addr} (h0 : σ[0]? = some (some (.ref p))) (h : Own (startT N p t ds) σ a) : a = p := by
  obtain ⟨i, r, e1, o1, e2⟩ := h
  cases i with
  | zero =>
    rw [h0] at e2
    cases e2
    rfl
  | succ i =>
    obtain ⟨d, rfl, _⟩ := startT_get e1
    cases o1
section
variable {P : Program} {w : World} {K : PySem.W.Frag} {mg : Str → Option Value} {base : Heap} {C : Addr}
theorem defT {x qual : Str} {st : Stmt} {f : Addr} {fd : FuncData} {N ps : List Str} {k : Nat} {T : Tp → List D3 → (R3 → Tp → Prop) → Prop} {t : TS3} (F : Fun K x qual st f fd) (S : FnScope N ps (defScope st)) (len : ∀ tp ds Q, T tp ds Q → ds.length + 1 = ps.length) (hN : ps.length ≤ N.length)
    (hbody : ∀ (cdv : Value) (A : Around) (outer : List Env) (s : Shared) (H : Hp) (E : XK), Room k (A.deeper (PyProof.Rows.envOfC qual (defScope st) s.heap.objs.size f cdv)) → XSs (cxOf CX0 P w K mg base N qual (defScope st) f cdv A outer s H E).nox C (defBody st) t)
    (hread : ∀ p tp ds Q, T tp ds Q → t { nx := fun ρ => ∃ tp', ρ[0]? = some (some (.tp p tp')) ∧ Q (.im .non) tp', rt := fun r ρ => ∃ tp', ρ[0]? = some (some (.tp p tp')) ∧ Q r tp' } (startT N p tp ds)) : FnOk P w K mg base CX0 (k + 1) f fd ps (spT ⟨K, C, P, w⟩ T) := by
  refine F.ok S (fun vs H Q E ⟨Fz, p, tp, ds, us, Q3, e0, _, _, im, hT, _⟩ => by rw [e0, List.length_cons, ← im.length]; exact len tp ds Q3 hT) fun cdv A outer s H vs Q E hr h => ?_
  obtain ⟨Fz, p, tp, ds, us, Q3, rfl, e, rt, im, hT, kk⟩ := h
  have hl := len tp ds Q3 hT
  have hlu := im.length
  have h0 : (L2.start N (.ref p :: us))[0]? = some (some (.ref p)) := start_get rfl
  have rt0 : RepR ⟨K, C, P, w⟩ Fz H (.tp p tp) (.ref p) := rt
  obtain ⟨q0, _, hF, hH, hq0⟩ := rt
  have fr : Frm ⟨K, C, P, w⟩ Fz (startT N p tp ds) (L2.start N (.ref p :: us)) H := by
    refine ⟨e, ?_, fun i r h => ?_, fun i j r r' a hij e1 o1 s1 e2 o2 s2 => ?_⟩
    · rw [start_len (by rw [List.length_cons]; omega)]
      unfold startT
      rw [List.length_cons, List.length_append, List.length_map, List.length_replicate]
      omega
    · cases i with
      | zero =>
        have h' : some (some (R3.tp p tp)) = some (some r) := h
        cases h'
        exact ⟨_, h0, rt0⟩
      | succ i =>
        obtain ⟨d, rfl, hd⟩ := startT_get h
        obtain ⟨v, hv, hm⟩ := im.get hd
        exact ⟨v, start_get (by rw [List.getElem?_cons_succ]; exact hv), hm⟩
    · cases i with
      | zero =>
        cases j with
        | zero => exact hij rfl
        | succ j =>
          obtain ⟨d, rfl, _⟩ := startT_get e2
          cases o2
      | succ i =>
        obtain ⟨d, rfl, _⟩ := startT_get e1
        cases o1
  refine ⟨_, hbody cdv A outer s H E hr, Fz, startT N p tp ds, _, fr, hread p tp ds Q3 hT, ?_⟩
  have keep : ∀ {F' H' : Hp} {ρ' : Rho} {σ' : L2.St} {tp' : Tp}, Stp ⟨K, C, P, w⟩ Fz (startT N p tp ds) (L2.start N (.ref p :: us)) H F' ρ' σ' H' → ρ'[0]? = some (some (.tp p tp')) → (∀ a o, H a = some o → a ≠ p → H' a = some o) ∧ (∀ a, H' a = none → H a = none) ∧ Same Fz F' ∧ Same F' H' ∧
      (∀ a, Fz a = none → H a ≠ none → a ≠ p → F' a = none) ∧ RepR ⟨K, C, P, w⟩ F' H' (.tp p tp') (.ref p) := fun s e => by
    obtain ⟨v, _, rv⟩ := s.fr.rep 0 _ e
    refine ⟨fun a o h n => s.keep a o h fun z => n (startT_own h0 z), s.dom, s.fx, s.fr.ex, fun a h1 h2 n => s.fresh a h1 h2 fun z => n (startT_own h0 z), ?_⟩
    have : v = .ref p := by
      obtain ⟨_, z, _⟩ := rv
      exact z
    subst this
    exact rv
  refine ⟨fun F' ρ' σ' H' hq s => ?_, fun F' ρ' σ' H' r v hq s rs => ?_, fun _ _ _ _ z => z.elim, fun _ _ _ _ z => z.elim⟩
  · obtain ⟨tp', e', hq⟩ := hq
    obtain ⟨k1, k2, k3, k4, k5, k6⟩ := keep s e'
    exact kk _ _ F' H' .non hq k1 k2 k3 k4 k5 k6 (im_non (g := ⟨K, C, P, w⟩) F') fun o => nomatch o
  · obtain ⟨tp', e', hq⟩ := hq
    obtain ⟨k1, k2, k3, k4, k5, k6⟩ := keep s e'
    refine kk _ _ F' H' v hq k1 k2 k3 k4 k5 k6 rs.rep fun o q ep => ?_
    rcases (rs.own o q ep).2 with z | z
    · exact z
    · have := startT_own h0 z
      subst this
      -- the tape itself is not handed back
      obtain ⟨v', ev, rv⟩ := s.fr.rep 0 _ e'
      have : v' = .ref q := by
        obtain ⟨_, z, _⟩ := rv
        exact z
      subst this
      exact absurd ⟨0, _, e', rfl, ev⟩ (rs.own o q ep).1
end
/-! ### the tape read and written -/
def Tp.get (t : Tp) : Nat → Option D3
  | 0 => some (.lst (t.ns.map D3.int))
  | 1 => some (.int t.j)
  | 2 => some (.int t.r)
  | 3 => some (.int t.s)
  | 4 => some (.int t.c)
  | _ => none
def Tp.put (t : Tp) (n : Int) : Nat → Option Tp
  | 1 => some { t with j := n }
  | 2 => some { t with r := n }
  | 3 => some { t with s := n }
  | 4 => some { t with c := n }
  | _ => none
def tpGet (i k : Nat) : TE3 := fun ρ Q => ∃ p t d, ρ[i]? = some (some (.tp p t)) ∧ t.get k = some d ∧ Q (.im d) ρ
def tpPut (i k : Nat) (te : TE3) : TS3 := fun D ρ => te ρ fun r ρ1 => ∃ n p t t', r = .im (.int n) ∧ ρ1[i]? = some (some (.tp p t)) ∧ t.put n k = some t' ∧ D.nx (ρ1.set i (some (.tp p t')))
theorem ims_of_ints {g : Gx} {F : Hp} : ∀ ns : List Int, Ims g F (ns.map D3.int) (ns.map V.int)
  | [] => Ims.nil
  | n :: ns => Ims.cons (im_int _ _) (ims_of_ints ns)
theorem low_tpGet {g : Gx} {σ : L2.St} {H : Hp} {Q : VK} {i k : Nat} (h : low g (tpGet i k) σ H Q) : tOp (rIxL g.K) (tVar i) (tC (.int (k : Nat))) σ H Q := by
  obtain ⟨F, ρ, Q3, fr, ⟨p, t, d, e, hd, q⟩, kk⟩ := h
  obtain ⟨x, ex, q0, rfl, hF, hH, hq⟩ := fr.rep i _ e
  have go : ∀ {v : V}, [V.ref q0, .int t.j, .int t.r, .int t.s, .int t.c][k]? = some v → Im g F d v → tOp (rIxL g.K) (tVar i) (tC (.int (k : Nat))) σ H Q := fun {v} h1 h2 =>
    ⟨.ref p, ex, p, _, (k : Nat), v, rfl, rfl, SqL.of hH, atI_nat h1, kk _ _ _ _ _ q (Stp.refl fr) (Res.im h2)⟩
  match k, hd with
  | 0, hd =>
    cases hd
    exact go rfl (by unfold Im; exact ⟨q0, _, rfl, hq, ims_of_ints _⟩)
  | 1, hd => cases hd; exact go rfl (im_int _ _)
  | 2, hd => cases hd; exact go rfl (im_int _ _)
  | 3, hd => cases hd; exact go rfl (im_int _ _)
  | 4, hd => cases hd; exact go rfl (im_int _ _)
  | k + 5, hd => cases hd
theorem low_tpPut {g : Gx} {σ : L2.St} {H : Hp} {D : Ends} {i k : Nat} {te : TE3} (h : lowS g (tpPut i k te) D σ H) : tAsg (low g te) (gSub (tVar i) (tC (.int (k : Nat))) rSetL) D σ H := by
  obtain ⟨F, ρ, E, fr, q, kk⟩ := h
  refine ⟨F, ρ, _, fr, q, fun r ρ1 F1 H1 v h s r1 => ?_⟩
  obtain ⟨n, p, t, t', rfl, e, ht, h⟩ := h
  have ev := rep_int r1.rep
  subst ev
  obtain ⟨x, ex, q0, rfl, hF, hH, hq⟩ := s.fr.rep i _ e
  have go : k < 5 → ([V.ref q0, .int t.j, .int t.r, .int t.s, .int t.c].set k (.int n) = [.ref q0, .int t'.j, .int t'.r, .int t'.s, .int t'.c]) → t'.ns = t.ns → tVar i σ H1 (fun o H1 => tC (.int (k : Nat)) σ H1 fun i H2 => rSetL o i (.int n) H2 fun H3 => D.nx σ H3) := fun h1 h2 h3 => by
    refine ⟨.ref p, ex, p, _, (k : Nat), k, rfl, rfl, hH, ?_, ?_⟩
    · unfold ixN
      rw [if_pos (by omega), if_pos (by show ((k : Nat) : Int) < (5 : Nat); omega)]
      simp
    · rw [h2]
      exact kk.nx _ _ _ _ h (s.trans (Stp.write s.fr e rfl ex rfl ⟨q0, rfl, hF, upd_same, by rw [h3]; exact hq⟩))
  match k, ht with
  | 0, ht => cases ht
  | 1, ht => cases ht; exact go (by omega) rfl rfl
  | 2, ht => cases ht; exact go (by omega) rfl rfl
  | 3, ht => cases ht; exact go (by omega) rfl rfl
  | 4, ht => cases ht; exact go (by omega) rfl rfl
  | k + 5, ht => cases ht
section
variable {X : Cx} {C : Addr} {o e : Expr} {te : TE3} {i : Nat} {pos p2 spos : Pos} {k2 : Nat}
theorem x_tpGet (k : Nat) (ho : PE X o (tVar i)) (hs : PlainIx (.Constant (.int (k : Nat)) k2 p2) := by exact fun _ _ => rfl) : XE X C (.Subscript o (.Constant (.int (k : Nat)) k2 p2) pos) (tpGet i k) := PE.of (pe_ix ix_list ho pe_int hs) fun _ _ _ => low_tpGet
theorem xs_tpPut (k : Nat) (ho : PE X o (tVar i)) (he : XE X C e te) (ha : ∀ v, assign (.Subscript o (.Constant (.int (k : Nat)) k2 p2) pos) X.env v = (do let ov ← holding [v] (eval o X.env); let iv ← holding [v, ov] (eval (.Constant (.int (k : Nat)) k2 p2) X.env); standAt pos; holding [v, ov, iv] (setItem ov iv v); release [v, ov, iv] []) := by intro _; rfl) (hs : swapsWithSole [.Subscript o (.Constant (.int (k : Nat)) k2 p2) pos] e spos.line X.env = pure false := by rfl) (hw : swappedStores [.Subscript o (.Constant (.int (k : Nat)) k2 p2) pos] e X.env = pure none := by rfl)
    (h1 : (assignEach [.Subscript o (.Constant (.int (k : Nat)) k2 p2) pos] X.env).map (·.2) = [assign (.Subscript o (.Constant (.int (k : Nat)) k2 p2) pos) X.env] := by rfl) : XS X C (.Assign [.Subscript o (.Constant (.int (k : Nat)) k2 p2) pos] e spos) (tpPut i k te) :=
  PS.of (ps_asg he (pg_sub ho pe_int set_list ha) hs hw h1) fun _ _ _ => low_tpPut
end
/-- [e, 0, 0, 1, 0] -/
def mkTape (te : TE3) (a b c d : Int) : TE3 := fun ρ Q => te ρ fun r ρ1 => ∃ ns : List Int, r.items = some (ns.map D3.int) ∧ ∀ p, Q (.tp p ⟨ns, a, b, c, d⟩) ρ1
theorem low_mkTape {g : Gx} {σ : L2.St} {H : Hp} {Q : VK} {te : TE3} {a b c d : Int} (h : low g (mkTape te a b c d) σ H Q) : tLst (tCons (low g te) (tCons (tC (.int a)) (tCons (tC (.int b)) (tCons (tC (.int c)) (tCons (tC (.int d)) tNil))))) σ H Q := by
  obtain ⟨F, ρ, Q3, fr, q, k⟩ := h
  refine ⟨F, ρ, _, fr, q, fun r ρ1 F1 H1 v h s r1 => ?_⟩
  obtain ⟨ns, hi, h⟩ := h
  obtain ⟨F2, q0, vs, rfl, s2, h2, h3⟩ := items_fz s r1 hi
  rw [ims_ints h3] at h2
  refine ⟨by show 5 ≤ sizeLine; decide, fun p hp => ?_⟩
  refine k _ _ _ _ _ (h p) (s2.trans (Stp.newO s2.fr hp)) ⟨⟨q0, rfl, s2.fr.ex.free hp, upd_same, h2⟩, fun _ p' e => ?_⟩
  cases e
  exact ⟨s2.fr.own_ne hp, .inl (s2.dom _ hp)⟩
section
variable {X : Cx} {C : Addr} {e : Expr} {te : TE3} {pos p1 p2 p3 p4 : Pos} {k1 k2 k3 k4 : Nat} {a b c d : Int}
theorem x_mkTape (he : XE X C e te) (h0 : starEach [e, .Constant (.int a) k1 p1, .Constant (.int b) k2 p2, .Constant (.int c) k3 p3, .Constant (.int d) k4 p4] X.env = (false, eval e X.env) :: starEach [.Constant (.int a) k1 p1, .Constant (.int b) k2 p2, .Constant (.int c) k3 p3, .Constant (.int d) k4 p4] X.env := by rfl) :
    XE X C (.List [e, .Constant (.int a) k1 p1, .Constant (.int b) k2 p2, .Constant (.int c) k3 p3, .Constant (.int d) k4 p4] pos) (mkTape te a b c d) :=
  PE.of (pe_lst (pa_cons he (pa_cons pe_int (pa_cons pe_int (pa_cons pe_int (pa_cons pe_int pa_nil)))) h0)) fun _ _ _ => low_mkTape
end
end L3

set_option Elab.async false
set_option autoImplicit false
set_option linter.all false
set_option maxRecDepth 100000
/-! L3, part i: dicts: stored into, displayed, made by a comprehension. -/
namespace L3
open PySem PySem.Spec L2

def putK3 (ks : List D3) (k : D3) : List D3 := if nk k ∈ ks.map nk then ks else ks ++ [k]
def putN (xs : List (NestedKey × Addr)) (k : NestedKey) (a : Addr) : List (NestedKey × Addr) := if k ∈ xs.map (·.1) then xs else xs ++ [(k, a)]
theorem putN_le (xs : List (NestedKey × Addr)) (k : NestedKey) (a : Addr) : (putN xs k a).length ≤ xs.length + 1 := by
  unfold putN
  split
  · omega
  · rw [List.length_append]; exact Nat.le_refl _
theorem putK3_le (ks : List D3) (k : D3) : (putK3 ks k).length ≤ ks.length + 1 := by
  unfold putK3
  split
  · omega
  · rw [List.length_append]; exact Nat.le_refl _
theorem ent_put (xs : List (NestedKey × Addr)) (k : NestedKey) (a : Addr) : storedH (ent xs) k a (.bool true) = ent (putN xs k a) := by
  have hs := atKey_some xs k
  unfold storedH putN
  by_cases h : k ∈ xs.map (·.1)
  · rw [if_pos h, if_pos (by rw [hs]; exact decide_eq_true h)]
    unfold ent
    rw [List.map_map]
    refine List.map_congr_left ?_
    intro x _
    show putAt k (Value.bool true) (x.1, x.2, Value.bool true) = _
    unfold putAt
    split <;> rfl
  · rw [if_neg h, if_neg (by rw [hs, decide_eq_false h]; exact Bool.false_ne_true)]
    unfold ent
    rw [List.map_append]
    rfl
section
variable {g : Gx} {F H : Hp}
theorem KeysAt.put {k : D3} {a : Addr} (hk : k.key = true) (hi : Im g F k (.ref a)) {ks : List D3} {xs : List (NestedKey × Addr)} (h : KeysAt g F ks xs) : KeysAt g F (putK3 ks k) (putN xs (nk k) a) := by
  unfold putK3 putN
  rw [h.keys]
  split
  · exact h
  · exact h.snoc hk hi
end
section
variable {X : Cx} {C : Addr} {pins : List (Addr × Obj)} {σ : L2.St} {F H : Hp} {s : Shared}
theorem laid_dict (I : Inv X pins σ H s) (t' : Nat) : Inv X pins σ (upd H s.heap.objs.size (dN X.prog X.w s.heap.objs.size [])) { s with heap := s.heap.push { cls := .type "dict", data := .dict #[] }, toks := t' } :=
  I.laid (t' := t') (fun _ _ q => Heap.get?_push_of_some _ q) (Nat.le_refl _) (dict_ok (beq_eq_false_iff_ne.mpr (Ne.symm (Nat.ne_of_lt I.big))) (Nat.zero_le _) (Heap.DictOfH.new s.heap))
theorem wrote_dict (I : Inv X pins σ H s) {d : Addr} {xs ys : List (NestedKey × Addr)} {h' : Heap} (hH : H d = some (dN X.prog X.w d xs)) (hd : (d == sysModules) = false) (hz : ys.length ≤ sizeLine) (hm : h'.DictOfH (nestedKind X.prog X.w) d (ent ys)) (hs : Heap.SameBut d s.heap h') (t' : Nat) :
    Inv X pins σ (upd H d (dN X.prog X.w d ys)) { s with heap := h', toks := t' } := by
  have he : ∃ q, h'.get? d = some q := let ⟨q, _, _, hq, _⟩ := hm; ⟨q, hq⟩
  exact d_write I (by rw [hH]; exact True.intro) hs he (dict_ok hd hz hm)
/-! ### d[k] = True -/
def rSetN (g : Gx) : TSet := fun o i v H Q => ∃ F k ks d xs, o = .ref d ∧ v = .bl true ∧ Same F H ∧ Im g F k i ∧ k.key = true ∧ H d = some (dN g.P g.w d xs) ∧ KeysAt g F ks xs ∧ xs.length < sizeLine ∧
  ∀ a, i = .ref a → Q (upd H d (dN g.P g.w d (putN xs (nk k) a)))
theorem set_dict (hu : X.A.units + 9 < cLine) : PSet X (rSetN (gx X C)) := by
  intro pins s σ H o i v ov; intro iv u Q I ro ri rv h
  obtain ⟨F, k, ks, d, xs, rfl, rfl, e, im, hk, hH, hx, hz, q⟩ := h
  obtain ⟨a, rfl⟩ := key_ref hk im
  have ro : ov = Value.ref d := ro
  have ri : iv = Value.ref a := ri
  have rv : u = Value.bool true := rv
  subst ro ri rv
  obtain ⟨z1, z2, z3⟩ := dict_is I e hH hx
  refine wpAny_setItem_heap (knd := nestedKind X.prog X.w) (by show X.A.units + 1 + 8 < cLine; omega) (key_is I e hk im) z3 (fun h' hm hs => ?_) (hsz := z2)
  rw [ent_put] at hm
  have hl := putN_le xs (nk k) a
  exact ⟨_, wrote_dict I hH z1 (by omega) hm hs _, q a rfl⟩
end
/-- d[key] = True: d at slot i -/
def dput3 (i : Nat) (tk : TE3) : TS3 := fun D ρ => (∃ r, ρ[i]? = some (some r)) ∧ tk ρ fun r ρ1 => ∃ k ks, r = .im k ∧ k.key = true ∧ ρ1[i]? = some (some (.dc ks)) ∧ ks.length < 100000 ∧ D.nx (ρ1.set i (some (.dc (putK3 ks k))))
theorem low_dput {g : Gx} {σ : L2.St} {H : Hp} {D : Ends} {i : Nat} {tk : TE3} (h : lowS g (dput3 i tk) D σ H) : tAsg (tC (.bl true)) (gSub (tVar i) (low g tk) (rSetN g)) D σ H := by
  obtain ⟨F, ρ, E, fr, ⟨⟨r0, e0⟩, q⟩, kk⟩ := h
  obtain ⟨x, ex, _⟩ := fr.rep i _ e0
  refine ⟨x, ex, F, ρ, _, fr, q, fun r ρ1 F1 H1 v h s r1 => ?_⟩
  obtain ⟨k, ks, rfl, hk, e1, hz, h⟩ := h
  obtain ⟨y, ey, d, xs, rfl, hF, hH, hx⟩ := s.fr.rep i _ e1
  rw [ex] at ey
  cases ey
  refine ⟨F1, k, ks, d, xs, rfl, rfl, s.fr.ex, r1.rep, hk, hH, hx, line_lt (by rw [← hx.length]; exact hz), fun a ha => ?_⟩
  subst ha
  exact kk.nx _ _ _ _ h (s.trans (Stp.write s.fr e1 rfl ex rfl ⟨d, _, rfl, hF, upd_same, hx.put hk r1.rep⟩))
section
variable {X : Cx} {C : Addr} {o k : Expr} {tk : TE3} {i : Nat} {pos p2 spos : Pos} {j : Nat}
theorem xs_dput (hu : X.A.units + 9 < cLine) (ho : PE X o (tVar i)) (hk : XE X C k tk) (ha : ∀ v, assign (.Subscript o k pos) X.env v = (do let ov ← holding [v] (eval o X.env); let iv ← holding [v, ov] (eval k X.env); standAt pos; holding [v, ov, iv] (setItem ov iv v); release [v, ov, iv] []) := by intro _; rfl)
    (hs : swapsWithSole [.Subscript o k pos] (.Constant (.bool true) j p2) spos.line X.env = pure false := by rfl) (hw : swappedStores [.Subscript o k pos] (.Constant (.bool true) j p2) X.env = pure none := by rfl)
    (h1 : (assignEach [.Subscript o k pos] X.env).map (·.2) = [assign (.Subscript o k pos) X.env] := by rfl) : XS X C (.Assign [.Subscript o k pos] (.Constant (.bool true) j p2) spos) (dput3 i tk) :=
  PS.of (ps_asg pe_bl (pg_sub ho hk (set_dict (C := C) hu) ha) hs hw h1) fun _ _ _ => low_dput
end
/-! ### {k: True} -/
def disp1 (tk : TE3) : TE3 := fun ρ Q => tk ρ fun r ρ1 => ∃ k, r = .im k ∧ k.key = true ∧ Q (.dc [k]) ρ1
def tDisp1 (g : Gx) (tk : TE) : TE := fun σ H Q => ∀ p, H p = none → tk σ (upd H p (dN g.P g.w p [])) fun v H2 => ∃ F k a, [(v, V.bl true)] = [(V.ref a, V.bl true)] ∧ Same F H2 ∧ Im g F k (.ref a) ∧ k.key = true ∧ H2 p = some (dN g.P g.w p []) ∧ Q (.ref p) (upd H2 p (dN g.P g.w p [(nk k, a)]))
theorem pe_disp1 {X : Cx} {C : Addr} {e : Expr} {tk : TE} {pos pt : Pos} {j : Nat} (hu : X.A.units + 8 < cLine) (h : PE X e tk) : PE X (.Dict [some e] [.Constant (.bool true) j pt] pos) (tDisp1 (gx X C) tk) := by
  refine ⟨?_⟩
  intro pins s σ H Q I q
  have hn := I.hok.fresh (a := s.heap.objs.size) (Nat.le_refl _)
  rw [arm_eval_Dict, zip_pairTrees [some e] [.Constant (.bool true) j pt] X.env pos rfl rfl, dictDisplay_pairs _ (by unfold pairTrees; exact fun z => nomatch z) (by show 1 < 17; decide)]
  refine wpAny_bind (wpAny_standAt (wpAny_bind (wpAny_subDictH (knd := nestedKind X.prog X.w) (Q := fun d s' => wpAny (model X.prog X.w) X.A (pure (Value.ref d)) _ X.xe s') (by show X.A.units + 8 < cLine; exact hu) (by show 1 ≤ 15; decide) ?_)))
  have I1 := laid_dict I s.toks
  have go : tPairs [(tk, tC (.bl true))] σ (upd H s.heap.objs.size (dN X.prog X.w s.heap.objs.size [])) (fun ps H2 => ∃ F k a, ps = [(V.ref a, V.bl true)] ∧ Same F H2 ∧ Im (gx X C) F k (.ref a) ∧ k.key = true ∧ H2 s.heap.objs.size = some (dN X.prog X.w s.heap.objs.size []) ∧ Q (.ref s.heap.objs.size) (upd H2 s.heap.objs.size (dN X.prog X.w s.heap.objs.size [(nk k, a)]))) := q _ hn
  refine thn ((pps_cons (pos := pos) h (pe_bl (b := true) (j := j) (pos := pt)) pps_nil).run pins _ σ _ _ I1 go) fun ws s2 ⟨ps, H2, I2, rel, F, k, a, ep, e2, im, hk, hD, q2⟩ => ?_
  subst ep
  obtain ⟨z1, z2, z3⟩ := dict_is (C := C) I2 e2 hD (ks := []) rfl
  cases rel with
  | @cons p b ps bs r rr =>
    cases rr
    obtain ⟨c1, c2⟩ := b
    obtain ⟨r1, r2⟩ := r
    have r1 : c1 = Value.ref a := r1
    have r2 : c2 = Value.bool true := r2
    subst r1 r2
    refine ⟨[(nk k, a, Value.bool true)], ⟨rfl, rfl, key_is I2 e2 hk im, trivial⟩, z3, fun h' tk hm hs => wpAny_pure ⟨.ref s.heap.objs.size, _, wrote_dict I2 hD z1 (ys := [(nk k, a)]) (by show 1 ≤ sizeLine; decide) hm hs tk, rfl, q2⟩⟩
theorem low_disp1 {g : Gx} {σ : L2.St} {H : Hp} {Q : VK} {tk : TE3} (h : low g (disp1 tk) σ H Q) : tDisp1 g (low g tk) σ H Q := by
  obtain ⟨F, ρ, Q3, fr, q, kk⟩ := h
  intro p hp
  have s0 : Stp g F ρ σ H F ρ σ (upd H p (dN g.P g.w p [])) := Stp.newO fr hp
  refine ⟨F, ρ, _, s0.fr, q, fun r ρ1 F1 H1 v h s r1 => ?_⟩
  obtain ⟨k, rfl, hk, h⟩ := h
  obtain ⟨a, rfl⟩ := key_ref hk r1.rep
  have nO : ¬ Own ρ σ p := fr.own_ne hp
  have k1 : H1 p = some (dN g.P g.w p []) := s.keep _ _ upd_same nO
  have f1 : F1 p = none := s.fresh _ (fr.ex.free hp) (by rw [upd_same]; exact fun z => nomatch z) nO
  have n1 : ¬ Own ρ1 σ p := fun z => (s.own p z).elim (fun w => by rw [upd_same] at w; cases w) nO
  have st : Stp g F ρ σ H F1 ρ1 σ (upd H1 p (dN g.P g.w p [(nk k, a)])) := Stp.poke (s0.trans s) hp f1 n1
  refine ⟨F1, k, a, rfl, s.fr.ex, r1.rep, hk, k1, kk _ _ _ _ _ h st ⟨⟨p, [(nk k, a)], rfl, f1, upd_same, _, _, rfl, rfl, hk, r1.rep, rfl⟩, fun _ q e => ?_⟩⟩
  cases e
  exact ⟨n1, .inl hp⟩
theorem x_disp1 {X : Cx} {C : Addr} {e : Expr} {tk : TE3} {pos pt : Pos} {j : Nat} (hu : X.A.units + 8 < cLine) (h : XE X C e tk) : XE X C (.Dict [some e] [.Constant (.bool true) j pt] pos) (disp1 tk) := PE.of (pe_disp1 (C := C) hu h) fun _ _ _ => low_disp1
/-! ### {y: True for y in tuple} -/
def dcT3 (src : TE3) : TE3 := fun ρ Q => src ρ fun r ρ1 => ∃ ks, r = .im (.tup ks) ∧ ks.length ≤ 100000 ∧ (∀ k ∈ ks, k.key = true) ∧ Q (.dc (ks.foldl putK3 [])) ρ1
def tDcT (g : Gx) (src : TE) : TE := fun σ H Q => src σ H fun v H1 => ∃ F p ks vs, v = .ref p ∧ Same F H1 ∧ F p = some (.tup vs) ∧ Ims g F ks vs ∧ ks.length ≤ 100000 ∧ (∀ k ∈ ks, k.key = true) ∧
  ∀ d xs, H1 d = none → KeysAt g F (ks.foldl putK3 []) xs → Q (.ref d) (upd H1 d (dN g.P g.w d xs))
theorem low_dcT {g : Gx} {σ : L2.St} {H : Hp} {Q : VK} {src : TE3} (h : low g (dcT3 src) σ H Q) : tDcT g (low g src) σ H Q := by
  obtain ⟨F, ρ, Q3, fr, q, kk⟩ := h
  refine ⟨F, ρ, _, fr, q, fun r ρ1 F1 H1 v h s r1 => ?_⟩
  obtain ⟨ks, rfl, hz, hk, h⟩ := h
  obtain ⟨p, vs, rfl, h2, h3⟩ := rep_tup r1.rep
  refine ⟨F1, p, ks, vs, rfl, s.fr.ex, h2, h3, hz, hk, fun d xs hd hx => ?_⟩
  refine kk _ _ _ _ _ h (s.trans (Stp.newO s.fr hd)) ⟨⟨d, xs, rfl, s.fr.ex.free hd, upd_same, hx⟩, fun _ q e => ?_⟩
  cases e
  exact ⟨s.fr.own_ne hd, .inl (s.dom _ hd)⟩
theorem putK_len (ks : List D3) : ∀ l : List D3, (ks.foldl putK3 l).length ≤ l.length + ks.length := by
  induction ks with
  | nil => intro l; exact Nat.le_refl _
  | cons k ks ih =>
    intro l
    have h1 := ih (putK3 l k)
    have h2 := putK3_le l k
    show (ks.foldl putK3 (putK3 l k)).length ≤ _
    rw [List.length_cons]
    omega
theorem putK_take {ks : List D3} {i : Nat} {k : D3} (h : ks[i]? = some k) : (ks.take (i + 1)).foldl putK3 [] = putK3 ((ks.take i).foldl putK3 []) k := by
  rw [List.take_add_one]; rw [h, List.foldl_append]
  rfl
theorem pe_dcT {X : Cx} {C : Addr} {iter : Expr} {src : TE} {scope : Scope} {y : Str} {j : Nat} {py py2 pt pos : Pos} (hu : X.A.units + 8 < cLine) (hc : X.calm = true) (hi : PE X iter src) (hkind : scope.kind = .function) (hcell : ∀ z ∈ scope.names, z.2 ≠ .cell) (hfree : ∀ z ∈ scope.names, z.2 ≠ .free)
    (hnames : ∀ z ∈ scope.names, z.2 = .local → scope.names.lookup z.1 = some .local) (hy : scope.names.lookup y = some .local) (hyd : (y == ("__debug__" : Str)) = false) (hs : ∀ x, foldedSetIterable iter X.env x = pure x) :
    PE X (.DictComp (.Name y py) (.Constant (.bool true) j pt) [⟨.Name y py2, iter, [], 0⟩] scope pos) (tDcT (gx X C) src) := by
  refine ⟨?_⟩
  intro pins s σ H Q I h
  refine DictComp_goes (closure_ok fun z hz e => absurd e (hfree z hz)) hcell hkind hnames (thn (hi.run pins s σ H _ I h) fun v s1 ⟨x, H1, I1, r1, F, p, ks, vs, ex, eF, hF, hims, hz, hk, q⟩ => ?_) hs
  subst ex
  have r1 : v = Value.ref p := r1
  subst r1
  obtain ⟨its, rv, ht, hzz⟩ := I1.tuple (SqT.of (eF _ _ hF))
  have ht : s1.heap.IsTuple p its.toArray := ht
  refine wpAny_pyIter_tuple ht ?_
  have plt : p < s1.heap.objs.size := by
    obtain ⟨o, ho, _⟩ := id ht
    exact Heap.lt_size ho
  have fI : FpOk X pins H1 s1.heap.objs.size := I1.fpOk (Nat.le_refl _) (I1.hok.fresh (Nat.le_refl _))
  generalize hs2 : ({ s1 with heap := s1.heap.push { cls := .type "tuple_iterator", data := .fields #[.ref p, .int 0 0] } } : Shared) = s2
  have e2 : s2.heap = s1.heap.push { cls := .type "tuple_iterator", data := .fields #[.ref p, .int 0 0] } := by rw [← hs2]
  have I2 : Inv X pins σ H1 s2 := by
    rw [← hs2]
    exact I1.kept (t' := s1.toks) fun b o e => Heap.get?_push_of_some _ e
  have z2 : s2.heap.objs.size = s1.heap.objs.size + 1 := by rw [e2, Heap.size_push]
  have st2 : s2.heap.IsTupleIter s1.heap.objs.size p 0 ∧ s2.heap.IsTuple p its.toArray := by
    rw [e2]
    exact ⟨⟨_, Heap.get?_push_size _ rfl, rfl, rfl⟩, ht.at fun o e => Heap.get?_push_of_some _ e⟩
  generalize hIt : s1.heap.objs.size = It at fI z2 st2 plt ⊢
  have W := Goes.tuple (prog := X.prog) (w := X.w) (target := .Name y py2) (I1.ok.hd hc) It p (Nat.ne_of_lt plt) its.toArray
  refine ⟨It, [It, p], [It], _, _, _, rfl, W, st2, fun D B s3 cb hD => ?_⟩
  have lt2 : It < s2.heap.objs.size := by rw [z2]; exact Nat.lt_succ_self _
  have hDI : D ≠ It := Nat.ne_of_gt (Nat.lt_of_lt_of_le lt2 cb.newD)
  have hDp : D ≠ p := Nat.ne_of_gt (Nat.lt_trans plt (Nat.lt_of_lt_of_le lt2 cb.newD))
  have hBI : B ≠ It := Nat.ne_of_gt (Nat.lt_of_lt_of_le lt2 cb.newC)
  have hBp : B ≠ p := Nat.ne_of_gt (Nat.lt_trans plt (Nat.lt_of_lt_of_le lt2 cb.newC))
  have dOK : (D == sysModules) = false := beq_eq_false_iff_ne.mpr (Nat.ne_of_gt (Nat.lt_of_lt_of_le I2.big cb.newD))
  have nD : H1 D = none := I2.hok.fresh cb.newD
  have nB : H1 B = none := I2.hok.fresh cb.newC
  have I3 : Inv X pins σ (upd H1 D (dN X.prog X.w D [])) s3 := by
    obtain ⟨h3, tk3, rfl⟩ := cb.only
    refine I2.laid (t' := tk3) cb.old cb.newD (dict_ok dOK (Nat.zero_le _) ⟨_, #[], 0, hD, ⟨rfl, rfl, rfl⟩, rfl, rfl, (fun _ hx => absurd hx (by unfold ent; simp)), List.nodup_nil⟩)
  have fB : ∀ xs, FpOk X pins (upd H1 D (dN X.prog X.w D xs)) B := fun xs => I2.fpOk cb.newC (by rw [upd_ne (Ne.symm cb.ne)]; exact nB)
  have fI' : ∀ xs, FpOk X pins (upd H1 D (dN X.prog X.w D xs)) It := fun xs => ⟨by rw [upd_ne (Ne.symm hDI)]; exact fI.1, fI.2⟩
  have mv : ∀ {b : Addr} {xs : List (NestedKey × Addr)} {s' : Shared} {h' : Heap} (tk : Nat), FpOk X pins (upd H1 D (dN X.prog X.w D xs)) b → Inv X pins σ (upd H1 D (dN X.prog X.w D xs)) s' → (∀ c o, c ≠ b → s'.heap.get? c = some o → h'.get? c = some o) → Inv X pins σ (upd H1 D (dN X.prog X.w D xs)) { s' with heap := h', toks := tk } :=
    fun tk ⟨f0, f1, f2, f3, f4, f5⟩ I' k => I'.turned (t' := tk) k f0 f1 f3 f4 f5
  have hn : its.toArray.size = ks.length := by rw [List.size_toArray, ← rv.length, hims.length]
  refine ⟨fun i s' => ∃ xs m, Inv X pins σ (upd H1 D (dN X.prog X.w D xs)) s' ∧ KeysAt (gx X C) F ((ks.take i).foldl putK3 []) xs ∧ s'.heap.Ns B m, ⟨[], _, I3, by rw [List.take_zero]; rfl, cb.names⟩, ?_, ?_, ?_⟩
  · rintro i s' h' tk ⟨xs, m, I', hx, hns⟩ hk' _
    exact ⟨xs, m, mv tk (fI' xs) I' fun c o hcI e => hk' c o (by simpa using hcI) e, hx, hns.at' fun o e => hk' _ o (by simpa using hBI) e⟩
  · rintro i v s4 hi hY hSt ⟨xs, m, I4, hx, hns⟩
    refine wpAny_assign_Name (wpAny_storeName_local (lookup_relabel_local hy) hns (fun h5 hn5 hs5 => ?_) (by show (scope.kind == .class || (scope.kind == .module && _)) = false; rw [hkind]; rfl))
    have I5 := mv (s4.toks + 1) (fB xs) I4 fun c o hcB e => hs5.extBut c o hcB e
    have st5 := W.frame _ _ _ hSt fun b hb o e => hs5.extBut b o (by rcases List.mem_cons.mp hb with rfl | hb; exact Ne.symm hBI; rw [List.mem_singleton.mp hb]; exact Ne.symm hBp) e
    show wpAny _ _ (forIn ([] : List Expr) true _) _ _ _
    rw [List.forIn_nil]
    refine wpAny_pure ?_
    rw [if_pos rfl]
    refine PyProof.Rows.ldVarK (v := v) hn5 (if_pos rfl) ?_ hkind (lookup_relabel_local hy) hyd
    refine PyProof.Rows.Constant_bool ?_
    have hY : its[i]? = some v := by simpa using hY
    have hiv : i < vs.length := by
      have e := Vals.length rv
      have e2 := (List.getElem?_eq_some_iff.mp hY).1
      omega
    obtain ⟨u', hu', rvi⟩ := Vals.get rv (List.getElem?_eq_getElem hiv)
    rw [hY] at hu'
    cases hu'
    have hvi := List.getElem?_eq_getElem hiv
    generalize vs[i] = vi at rvi hvi
    obtain ⟨k, hki, im⟩ := hims.get' hvi
    have kk := hk k (List.mem_of_getElem? hki)
    obtain ⟨a, rfl⟩ := key_ref kk im
    have rvi : v = Value.ref a := rvi
    subst rvi
    have eF5 : Same F (upd H1 D (dN X.prog X.w D xs)) := Same.mut eF (eF.free nD)
    obtain ⟨z1, z2', z3⟩ := dict_is (C := C) I5 eF5 upd_same hx
    have hl := hx.length
    have hl2 := putK_len (ks.take i) []
    have hl3 : (ks.take i).length ≤ 100000 := Nat.le_trans (List.length_take_le' _ _) hz
    rw [List.length_nil] at hl2
    have hz6 : xs.length < sizeLine := by
      have h63 : 100000 < sizeLine := by decide
      omega
    refine wpAny_dictSet_heap (knd := nestedKind X.prog X.w) (hsz := by unfold ent; rw [List.length_map]; omega) hu (key_is I5 eF5 kk im) z3 fun h6 hm6 hs6 => ?_
    rw [ent_put] at hm6
    have hl4 := putN_le xs (nk k) a
    have I6 := wrote_dict I5 upd_same z1 (by omega) hm6 hs6 (s4.toks + 1 + (nestedKind X.prog X.w).draws (nk k))
    rw [upd_upd] at I6
    refine ⟨⟨putN xs (nk k) a, _, I6, by rw [putK_take hki]; exact hx.put kk im, hn5.sameBut hs6 (Ne.symm cb.ne)⟩, W.frame _ _ _ st5 fun b hb o e => hs6.extBut b o (by rcases List.mem_cons.mp hb with rfl | hb; exact Ne.symm hDI; rw [List.mem_singleton.mp hb]; exact Ne.symm hDp) e⟩
  · rintro s5 ⟨xs, m, I5, hx, hns⟩
    rw [hn, List.take_length] at hx
    exact ⟨m, hns, fun h' sb => ⟨.ref D, _, mv s5.toks (fB xs) I5 fun c o hcB e => sb.extBut c o hcB e, rfl, q D xs nD hx⟩⟩
theorem x_dcT {X : Cx} {C : Addr} {iter : Expr} {src : TE3} {scope : Scope} {y : Str} {j : Nat} {py py2 pt pos : Pos} (hu : X.A.units + 8 < cLine) (hi : XE X C iter src) (hc : X.calm = true := by rfl) (hkind : scope.kind = .function := by rfl) (hcell : ∀ z ∈ scope.names, z.2 ≠ .cell := by decide +kernel) (hfree : ∀ z ∈ scope.names, z.2 ≠ .free := by decide +kernel)
    (hnames : ∀ z ∈ scope.names, z.2 = .local → scope.names.lookup z.1 = some .local := by decide +kernel) (hy : scope.names.lookup y = some .local := by rfl) (hyd : (y == ("__debug__" : Str)) = false := by decide) (hs : ∀ x, foldedSetIterable iter X.env x = pure x := by intro _; rfl) :
    XE X C (.DictComp (.Name y py) (.Constant (.bool true) j pt) [⟨.Name y py2, iter, [], 0⟩] scope pos) (dcT3 src) := PE.of (pe_dcT (C := C) hu hc hi hkind hcell hfree hnames hy hyd hs) fun _ _ _ => low_dcT
end L3

set_option Elab.async false
set_option autoImplicit false
set_option linter.all false
set_option maxRecDepth 100000
/-! L3, part j: the pairs of names; views; objects that are filled. -/
namespace L3
open PySem PySem.Spec L2

/-! ### name = e, the list e frozen -/
def asgF3 (t : TE3) (i : Nat) : TS3 := fun D ρ => t ρ fun r ρ1 => ∃ ds, r = .ls ds ∧ D.nx (ρ1.set i (some (.im (.lst ds))))
theorem low_asgF {g : Gx} {σ : L2.St} {H : Hp} {D : Ends} {te : TE3} {i : Nat} (h : lowS g (asgF3 te i) D σ H) : tAsg (low g te) (gName i) D σ H := by
  obtain ⟨F, ρ, E, fr, q, k⟩ := h
  refine ⟨F, ρ, _, fr, q, fun r ρ1 F1 H1 v h s r1 => ?_⟩
  obtain ⟨ds, rfl, h⟩ := h
  obtain ⟨F2, p, rfl, s2, im⟩ := Stp.freezeR s r1
  exact k.nx _ _ _ _ h (Stp.set fr s2 (Res.im im))
/-! ### the pairs of names -/
def prI (i : Nat) (ks : List Nat) : List D3 := (ks.filter fun j => decide (i ≠ j)).map fun j => D3.tup [.int (i : Nat), .int (j : Nat)]
def prsOf (n : Nat) : List D3 := (List.range n).flatMap fun i => prI i (List.range n)
def prs3 (im : Nat) : TE3 := fun ρ Q => ∃ n : Nat, ρ[im]? = some (some (.im (.int (n : Nat)))) ∧ n ≤ 100 ∧ Q (.ls (prsOf n)) ρ
theorem prI_len (i : Nat) (ks : List Nat) : (prI i ks).length ≤ ks.length := by
  unfold prI
  rw [List.length_map]
  exact List.length_filter_le _ _
theorem prs_le (n : Nat) : ∀ is : List Nat, (is.flatMap fun i => prI i (List.range n)).length ≤ is.length * n
  | [] => by simp
  | i :: is => by
    have h1 := prs_le n is
    have h2 := prI_len i (List.range n)
    rw [List.length_range] at h2
    rw [List.flatMap_cons, List.length_append, List.length_cons, Nat.succ_mul]
    omega
section
variable {g : Gx} {F1 H1 : Hp} {ρ1 : Rho} {σ : L2.St} {Dl : Addr}
theorem cv_pair (h0 : H1 Dl = none) (fr : Frm g F1 ρ1 σ H1) {xs : List D3} {H' : Hp} (c : Cv g F1 ρ1 σ H1 Dl xs H') {i j : Int} {p : Addr} (hp : H' p = none) : ∃ acc, (upd H' p (.tup [.int i, .int j])) Dl = some (.lst acc) ∧ acc.length = xs.length ∧
    Cv g F1 ρ1 σ H1 Dl (xs ++ [.tup [.int i, .int j]]) (upd (upd H' p (.tup [.int i, .int j])) Dl (.lst (acc ++ [.ref p]))) := by
  obtain ⟨F', us, s, c1, c2, c3⟩ := c
  have hDp : Dl ≠ p := ne_of_none c2 hp
  have fp : F' p = none := s.fr.ex.free hp
  have s2 := s.trans (Stp.newF (o := .tup [.int i, .int j]) s.fr hp)
  refine ⟨us, by rw [upd_ne hDp]; exact c2, c3.length.symm, upd F' p (.tup [.int i, .int j]), us ++ [.ref p], Stp.poke s2 h0 (by rw [upd_ne hDp]; exact c1) (fr.own_ne h0), by rw [upd_ne hDp]; exact c1, upd_same, (Ims.mono (Same.new fp) _ _ c3).append (Ims.cons ?_ Ims.nil)⟩
  unfold Im
  exact ⟨p, _, rfl, upd_same, Ims.cons (im_int _ _) (Ims.cons (im_int _ _) Ims.nil)⟩
end
theorem low_prs {g : Gx} {σ : L2.St} {H : Hp} {Q : VK} {im j1 j2 : Nat} {vs : List Nat} (hm : im ∉ vs) (h1 : j1 ∈ vs) (h2 : j2 ∈ vs) (h12 : j1 ≠ j2) (hl : j1 < σ.length) (hl2 : j2 < σ.length) (h : low g (prs3 im) σ H Q) :
    tLc2 (iRng1 (tCons (tVar im) tNil)) (gName j1) tYes (iRng1 (tCons (tVar im) tNil)) (gName j2) (tTest (tOp (rI0 fun i j => .bl (!decide (i = j))) (tVar j1) (tVar j2))) (tTup (tCons (tVar j1) (tCons (tVar j2) tNil))) vs [j2] σ H Q := by
  obtain ⟨F, ρ, Q3, fr, ⟨n, e, hn, q⟩, k⟩ := h
  obtain ⟨v, ev, rv⟩ := fr.rep im _ e
  have := rep_int rv
  subst this
  refine ⟨_, ev, n, rfl, by omega, by omega, fun Dl hD => ?_⟩
  have en : (n : Int).toNat = n := by omega
  rw [en]
  have hj : j1 ∉ [j2] := by simpa using h12
  have him : im ∉ [j2] := fun z => hm (by rw [List.mem_singleton.mp z]; exact h2)
  have hmj : j1 ≠ im := fun z => hm (z ▸ h1)
  refine ⟨fun i m H' => m = n - i ∧ i ≤ n ∧ Cv g F ρ σ H Dl ((List.range i).flatMap fun i => prI i (List.range n)) H', ⟨n, by simp, Nat.zero_le _, by simpa using cv_start fr hD⟩, ?_⟩
  rintro i m H' ⟨rfl, hi, c⟩
  have li := prs_le n (List.range i)
  rw [List.length_range] at li
  by_cases hlt : i < n
  · refine .inr ⟨hlt, fun H' => Cv g F ρ σ H Dl ((List.range (i + 1)).flatMap fun i => prI i (List.range n)) H', fun H' p' => ⟨n - (i + 1), by omega, rfl, hlt, p'⟩, fun x H' y => ?_⟩
    obtain ⟨rfl, rfl⟩ := y
    refine ⟨(wipe_set _ _ h1 _).trans (wipe_wipe _ _), ?_⟩
    have l2 : j1 < (L2.wipe σ vs).length := by rw [wipe_length]; exact hl
    have e2 : ((L2.wipe σ vs).set j1 (some (.int (0 + (i : Nat)))))[im]? = some (some (.int n)) := by rw [List.getElem?_set_ne hmj, wipe_out hm]; exact ev
    refine ⟨_, e2, n, rfl, by omega, by omega, ?_⟩
    rw [en]
    refine ⟨fun j m H' => m = n - j ∧ j ≤ n ∧ Cv g F ρ σ H Dl ((List.range i).flatMap (fun i => prI i (List.range n)) ++ prI i (List.range j)) H', ⟨n, by simp, Nat.zero_le _, by simpa [prI] using c⟩, ?_⟩
    rintro j m H'' ⟨rfl, hj2, c2⟩
    by_cases hlt2 : j < n
    · refine .inr ⟨hlt2, fun H' => Cv g F ρ σ H Dl ((List.range i).flatMap (fun i => prI i (List.range n)) ++ prI i (List.range (j + 1))) H', fun H' p' => ⟨n - (j + 1), by omega, rfl, hlt2, p'⟩, fun x H' y => ?_⟩
      obtain ⟨rfl, rfl⟩ := y
      refine ⟨(wipe_set _ _ (by simp) _).trans (wipe_wipe _ _), ?_⟩
      have l3 : j2 < (L2.wipe ((L2.wipe σ vs).set j1 (some (.int (0 + (i : Nat))))) [j2]).length := by rw [wipe_length, List.length_set, wipe_length]; exact hl2
      have e3 : ((L2.wipe ((L2.wipe σ vs).set j1 (some (.int (0 + (i : Nat))))) [j2]).set j2 (some (.int (0 + (j : Nat)))))[j1]? = some (some (.int (i : Nat))) := by
        rw [List.getElem?_set_ne (Ne.symm h12), wipe_out hj, List.getElem?_set_self l2, Int.zero_add]
      have e4 : ((L2.wipe ((L2.wipe σ vs).set j1 (some (.int (0 + (i : Nat))))) [j2]).set j2 (some (.int (0 + (j : Nat)))))[j2]? = some (some (.int (j : Nat))) := by
        rw [List.getElem?_set_self l3, Int.zero_add]
      refine ⟨_, e3, _, e4, _, _, rfl, rfl, _, rfl, ?_⟩
      have lj := prI_len i (List.range j)
      rw [List.length_range] at lj
      have hk : (List.range (j + 1)) = List.range j ++ [j] := List.range_succ
      have hmul : i * n ≤ 100 * 100 := Nat.mul_le_mul (by omega) hn
      by_cases hij : i = j
      · subst hij
        dsimp only
        rw [if_neg (by simp), hk]
        unfold prI at c2 ⊢
        simpa using c2
      · have hd : (!decide ((i : Int) = (j : Int))) = true := by simp; omega
        dsimp only
        rw [if_pos hd]
        refine ⟨_, e3, _, e4, by show 2 ≤ sizeLine; decide, fun p hp => ?_⟩
        obtain ⟨acc, a1, a2, a3⟩ := cv_pair hD fr c2 (i := (i : Nat)) (j := (j : Nat)) hp
        refine ⟨acc, a1, line_lt (by rw [a2, List.length_append]; omega), ?_⟩
        rw [hk]
        have e5 : prI i (List.range j ++ [j]) = prI i (List.range j) ++ [.tup [.int (i : Nat), .int (j : Nat)]] := by
          unfold prI
          rw [List.filter_append, List.map_append]
          congr 1
          simp [hij]
        rw [e5, ← List.append_assoc]
        exact a3
    · have e : j = n := by omega
      subst e
      refine .inl ⟨Nat.le_refl _, ?_⟩
      have hk : (List.range (i + 1)) = List.range i ++ [i] := List.range_succ
      rw [hk, List.flatMap_append]
      simpa using c2
  · have e : i = n := by omega
    subst e
    exact .inl ⟨Nat.le_refl _, cv_done (Stp.refl fr) hD c k q⟩
/-! ### objects that are filled -/
def frz : R3 → Option D3
  | .im d => some d
  | .ls ds => some (.lst ds)
  | _ => none
section
variable {g : Gx} {F F1 H H1 : Hp} {ρ ρ1 : Rho} {σ σ1 : L2.St} {r : R3} {v : V} {d : D3}
theorem frz_at (hf : frz r = some d) (s : Stp g F ρ σ H F1 ρ1 σ1 H1) (q : Res g F1 H1 ρ1 σ1 r v ρ σ H) : ∃ F2, Stp g F ρ σ H F2 ρ1 σ1 H1 ∧ Im g F2 d v := by
  cases r with
  | im d => cases hf; exact ⟨F1, s, q.rep⟩
  | ls ds =>
    cases hf
    obtain ⟨F2, p, rfl, s2, im⟩ := Stp.freezeR s q
    exact ⟨F2, s2, im⟩
  | dc _ => cases hf
  | tp _ _ => cases hf
  | ob _ _ => cases hf
end
theorem obF_snoc {fs : List (Str × D3)} {vs : List V} (f : Str) (d : D3) (v : V) (h : fs.length = vs.length) : obF (fs ++ [(f, d)]) (vs ++ [v]) = putF f v (obF fs vs) := by
  unfold obF
  rw [List.map_append, List.zip_append (by rw [List.length_map]; exact h), List.foldl_append]
  rfl
theorem putF_len (f : Str) (v : V) : ∀ fs : List (Str × V), (putF f v fs).length ≤ fs.length + 1
  | [] => Nat.le_refl _
  | (x, y) :: r => by
    have := putF_len f v r
    unfold putF
    split
    · rw [List.length_cons, List.length_cons]; omega
    · rw [List.length_cons, List.length_cons]; omega
theorem foldF_len : ∀ (xs : List (Str × V)) (acc : List (Str × V)), (xs.foldl (fun acc x => putF x.1 x.2 acc) acc).length ≤ acc.length + xs.length
  | [], _ => Nat.le_refl _
  | x :: xs, acc => by
    have h1 := foldF_len xs (putF x.1 x.2 acc)
    have h2 := putF_len x.1 x.2 acc
    rw [List.foldl_cons]; rw [List.length_cons]
    omega
theorem obF_len (fs : List (Str × D3)) (vs : List V) : (obF fs vs).length ≤ fs.length := by
  have h := foldF_len ((fs.map (·.1)).zip vs) []
  rw [List.length_zip, List.length_map, List.length_nil] at h
  unfold obF
  omega
/-- self.f = e -/
def sfld3 (i : Nat) (f : Str) (te : TE3) : TS3 := fun D ρ => te ρ fun r ρ1 => ∃ d p fs, frz r = some d ∧ ρ1[i]? = some (some (.ob p fs)) ∧ fs.length < 1000 ∧ D.nx (ρ1.set i (some (.ob p (fs ++ [(f, d)]))))
theorem low_sfld {g : Gx} {σ : L2.St} {H : Hp} {D : Ends} {i : Nat} {f : Str} {te : TE3} (hc : Cls g.K g.C) (hn : NoAttr g.K g.C f) (h : lowS g (sfld3 i f te) D σ H) : sFld g.K (tVar i) (low g te) f D σ H := by
  obtain ⟨F, ρ, E, fr, q, kk⟩ := h
  refine ⟨F, ρ, _, fr, q, fun r ρ1 F1 H1 v h s r1 => ?_⟩
  obtain ⟨d, p, fs, hf, e1, hz, h⟩ := h
  obtain ⟨F2, s2, im⟩ := frz_at hf s r1
  obtain ⟨y, ey, dx, vs, rfl, hF, hH, hx⟩ := s2.fr.rep i _ e1
  have hl := hx.length
  rw [List.length_map] at hl
  have hol := obF_len fs vs
  refine ⟨.ref p, ey, p, g.C, dx, _, rfl, hH, hc, hn, by omega, kk.nx _ _ _ _ h (s2.trans (Stp.write s2.fr e1 rfl ey rfl ⟨dx, vs ++ [v], rfl, hF, ?_, ?_⟩))⟩
  · rw [obF_snoc f d v hl]
    exact upd_same
  · rw [List.map_append]
    exact hx.append (Ims.cons im Ims.nil)
theorem xs_sfld {X : Cx} {C : Addr} {o e : Expr} {te : TE3} {f : Str} {i : Nat} {pos pos' : Pos} (hc : Cls X.K C) (hn : NoAttr X.K C f) (ho : PE X o (tVar i)) (he : XE X C e te) (hs : swapsWith e (some (.Attribute o f pos')) pos.line X.env = pure false := by rfl) :
    XS X C (.Assign [.Attribute o f pos'] e pos) (sfld3 i f te) := PS.of (ps_fld ho he hs) fun _ _ _ => low_sfld (g := gx X C) hc hn
/-! ### methods that fill their object -/
abbrev FS := List (Str × D3)
def spO (g : Gx) (T : FS → List D3 → (FS → Prop) → Prop) : Sp := fun vs H Q _ => ∃ (F : Hp) (p : Addr) (fs : FS) (ds : List D3) (us : List V) (Q3 : FS → Prop), vs = .ref p :: us ∧ Same F H ∧ RepR g F H (.ob p fs) (.ref p) ∧ Ims g F ds us ∧ T fs ds Q3 ∧
  ∀ fs' F' H', Q3 fs' → (∀ a o, H a = some o → a ≠ p → H' a = some o) → (∀ a, H' a = none → H a = none) → Same F F' → Same F' H' → (∀ a, F a = none → H a ≠ none → a ≠ p → F' a = none) → RepR g F' H' (.ob p fs') (.ref p) → Q .non H'
def methO (i : Nat) (T : FS → List D3 → (FS → Prop) → Prop) (ta : TA3) : TE3 := fun ρ Q => (∃ p, ρ[i]? = some (some (.ob p []))) ∧ ta ρ fun ds ρ1 => ∃ p fs, ρ1[i]? = some (some (.ob p fs)) ∧ T fs ds fun fs' => Q (.im .non) (ρ1.set i (some (.ob p fs')))
theorem low_methO {g : Gx} {σ : L2.St} {H : Hp} {Q : VK} {i : Nat} {m : Str} {T : FS → List D3 → (FS → Prop) → Prop} {ta : TA3} {E : XK} (h : low g (methO i T ta) σ H Q) : tMeth g.C m (spO g T) [] E (tVar i) (lowA g ta) σ H Q := by
  obtain ⟨F, ρ, Q3, fr, ⟨⟨p0, e0⟩, q⟩, k⟩ := h
  obtain ⟨x, ex, rx⟩ := fr.rep i _ e0
  obtain ⟨dx0, vs0, rfl, y1, y2, y3⟩ := rx
  refine ⟨.ref p0, ex, p0, dx0, _, rfl, y2, rfl, F, ρ, _, fr, q, fun ds ρ1 F1 H1 us h s im => ?_⟩
  obtain ⟨p, fs, e1, h⟩ := h
  obtain ⟨x, ex', rx⟩ := s.fr.rep i _ e1
  rw [ex] at ex'
  cases ex'
  have hp : p0 = p := by
    obtain ⟨_, _, z, _⟩ := rx
    cases z
    rfl
  subst hp
  show spO g T ((.ref p0 :: us) ++ []) H1 Q E
  rw [List.append_nil]
  refine ⟨F1, p0, fs, ds, us, _, rfl, s.fr.ex, rx, im, h, fun fs' F' H' hq k1 k2 k3 k4 k5 rt => ?_⟩
  have own0 : Own ρ1 σ p0 := ⟨i, _, e1, rfl, ex⟩
  have hi : i < ρ1.length := (List.getElem?_eq_some_iff.mp e1).1
  have st : Stp g F1 ρ1 σ H1 F' (ρ1.set i (some (.ob p0 fs'))) σ H' := by
    refine ⟨k3, ⟨k4, by rw [List.length_set]; exact s.fr.len, fun j r' e => ?_, fun a b r1 r2 q hab e1' o1 s1 e2' o2 s2 => ?_⟩, fun a o ha n => k1 a o ha fun z => n (z ▸ own0), k2, fun a h1 h2 n => k5 a h1 h2 fun z => n (z ▸ own0), fun a ⟨j, r', e, o, z⟩ => ?_⟩
    · by_cases hj : i = j
      · subst hj
        rw [List.getElem?_set_self hi] at e
        cases e
        exact ⟨_, ex, rt⟩
      · rw [List.getElem?_set_ne hj] at e
        obtain ⟨v', z1, z2⟩ := s.fr.rep j r' e
        refine ⟨v', z1, z2.stay k3 fun q o o1 y1 y2 => ?_⟩
        subst y1
        have hq : q ≠ p0 := fun z => by
          subst z
          exact s.fr.sep i j _ r' q hj e1 rfl ex e o1 z1
        obtain ⟨q', u, w1, w2, _⟩ := z2.there o1
        cases w1
        exact ⟨k1 q o y2 hq, k5 q w2 (by rw [y2]; exact fun z => nomatch z) hq⟩
    · have fix : ∀ {c : Nat} {r3 : R3}, (ρ1.set i (some (.ob p0 fs')))[c]? = some (some r3) → r3.own = true → ∃ r4, ρ1[c]? = some (some r4) ∧ r4.own = true := fun {c r3} z1 z2 => by
        by_cases hc : i = c
        · subst hc
          exact ⟨_, e1, rfl⟩
        · rw [List.getElem?_set_ne hc] at z1
          exact ⟨r3, z1, z2⟩
      obtain ⟨r3, y1, y2⟩ := fix e1' o1
      obtain ⟨r4, y3, y4⟩ := fix e2' o2
      exact s.fr.sep a b r3 r4 q hab y1 y2 s1 y3 y4 s2
    · by_cases hj : i = j
      · subst hj
        exact .inr ⟨i, _, e1, rfl, z⟩
      · rw [List.getElem?_set_ne hj] at e
        exact .inr ⟨j, r', e, o, z⟩
  exact k _ _ F' H' .non hq (s.trans st) (Res.im (im_non F'))
def startX (N : List Str) (r0 : R3) (ds : List D3) : Rho := some r0 :: (ds.map (fun d => some (.im d)) ++ List.replicate (N.length - (ds.length + 1)) none)
theorem startX_get {N : List Str} {r0 : R3} {ds : List D3} {i : Nat} {r : R3} (h : (startX N r0 ds)[i + 1]? = some (some r)) : ∃ d, r = .im d ∧ ds[i]? = some d := by
  unfold startX at h
  rw [List.getElem?_cons_succ] at h
  by_cases hi : i < ds.length
  · rw [List.getElem?_append_left (by rw [List.length_map]; exact hi), List.getElem?_map, List.getElem?_eq_getElem hi] at h
    refine ⟨ds[i], ?_, List.getElem?_eq_getElem hi⟩
    have h' : some (some (R3.im ds[i])) = some (some r) := h
    cases h'
    rfl
  · rw [List.getElem?_append_right (by rw [List.length_map]; omega), List.getElem?_replicate] at h
    split at h
    · cases h
    · cases h
theorem startX_own {N : List Str} {r0 : R3} {p : Addr} {ds : List D3} {σ : L2.St} {a : Addr} (h0 : σ[0]? = some (some (.ref p))) (h : Own (startX N r0 ds) σ a) : a = p := by
  obtain ⟨i, r, e1, o1, e2⟩ := h
  cases i with
  | zero =>
    rw [h0] at e2
    cases e2
    rfl
  | succ i =>
    obtain ⟨d, rfl, _⟩ := startX_get e1
    cases o1
section
variable {P : Program} {w : World} {K : PySem.W.Frag} {mg : Str → Option Value} {base : Heap} {C : Addr}
theorem defO {x qual : Str} {st : Stmt} {f : Addr} {fd : FuncData} {N ps : List Str} {k : Nat} {T : FS → List D3 → (FS → Prop) → Prop} {t : TS3} (Fz : Fun K x qual st f fd) (S : FnScope N ps (defScope st)) (len : ∀ fs ds Q, T fs ds Q → ds.length + 1 = ps.length) (hN : ps.length ≤ N.length)
    (hbody : ∀ (cdv : Value) (A : Around) (outer : List Env) (s : Shared) (H : Hp) (E : XK), Room k (A.deeper (PyProof.Rows.envOfC qual (defScope st) s.heap.objs.size f cdv)) → XSs (cxOf CX0 P w K mg base N qual (defScope st) f cdv A outer s H E).nox C (defBody st) t)
    (hread : ∀ p fs ds Q, T fs ds Q → t { nx := fun ρ => ∃ fs', ρ[0]? = some (some (.ob p fs')) ∧ Q fs', rt := fun _ _ => False } (startX N (.ob p fs) ds)) : FnOk P w K mg base CX0 (k + 1) f fd ps (spO ⟨K, C, P, w⟩ T) := by
  refine Fz.ok S (fun vs H Q E ⟨Fz, p, tp, ds, us, Q3, e0, _, _, im, hT, _⟩ => by rw [e0, List.length_cons, ← im.length]; exact len tp ds Q3 hT) fun cdv A outer s H vs Q E hr h => ?_
  obtain ⟨F, p, fs, ds, us, Q3, rfl, e, rt, im, hT, kk⟩ := h
  have hl := len fs ds Q3 hT
  have hlu := im.length
  have h0 : (L2.start N (.ref p :: us))[0]? = some (some (.ref p)) := start_get rfl
  have fr : Frm ⟨K, C, P, w⟩ F (startX N (.ob p fs) ds) (L2.start N (.ref p :: us)) H := by
    refine ⟨e, ?_, fun i r h => ?_, fun i j r r' a hij e1 o1 s1 e2 o2 s2 => ?_⟩
    · rw [start_len (by rw [List.length_cons]; omega)]
      unfold startX
      rw [List.length_cons, List.length_append, List.length_map, List.length_replicate]
      omega
    · cases i with
      | zero =>
        have h' : some (some (R3.ob p fs)) = some (some r) := h
        cases h'
        exact ⟨_, h0, rt⟩
      | succ i =>
        obtain ⟨d, rfl, hd⟩ := startX_get h
        obtain ⟨v, hv, hm⟩ := im.get hd
        exact ⟨v, start_get (by rw [List.getElem?_cons_succ]; exact hv), hm⟩
    · cases i with
      | zero =>
        cases j with
        | zero => exact hij rfl
        | succ j =>
          obtain ⟨d, rfl, _⟩ := startX_get e2
          cases o2
      | succ i =>
        obtain ⟨d, rfl, _⟩ := startX_get e1
        cases o1
  refine ⟨_, hbody cdv A outer s H E hr, F, startX N (.ob p fs) ds, _, fr, hread p fs ds Q3 hT, fun F' ρ' σ' H' hq s => ?_, fun _ _ _ _ _ _ z => z.elim, fun _ _ _ _ z => z.elim, fun _ _ _ _ z => z.elim⟩
  obtain ⟨fs', e', hq⟩ := hq
  obtain ⟨v, ev, rv⟩ := s.fr.rep 0 _ e'
  have hv : v = .ref p := by
    obtain ⟨_, _, z, _⟩ := rv
    exact z
  subst hv
  refine kk _ F' H' hq (fun a o h n => s.keep a o h fun z => n (startX_own h0 z)) s.dom s.fx s.fr.ex (fun a h1 h2 n => s.fresh a h1 h2 fun z => n (startX_own h0 z)) rv
end
section
variable {X : Cx} {C f : Addr} {k : Nat} {fd : FuncData} {ps : List Str} {T : FS → List D3 → (FS → Prop) → Prop} {x m : Str} {p pos apos : Pos} {e o : Expr} {es : List Expr} {ta : TA3} {i : Nat}
theorem x_methO {pl : Sem Bool} (c : Cls X.K C) (hm : Meth X.K C m f) (G : FnOk X.prog X.w X.K X.mg X.base CX0 k f fd ps (spO (gx X C) T)) (hr : Room k X.A) (hb : Binds X.K fd ps []) (ho : PE X o (tVar i)) (ha : XA X C (e :: es) ta)
    (hst : starEach (e :: es) X.env = (false, eval e X.env) :: starEach es X.env := by rfl) (hpl : (backTo pos (starEach es X.env)).any (·.1) = false := by rfl) (ht : eval (.Call (.Attribute o m apos) (e :: es) [] pos) X.env = (do let ov ← eval o X.env; standAt apos.atName; let (f, first) ← holding [ov] (getMethod ov m pl); callWith pos f first (backTo pos (starEach (e :: es) X.env)) (backToKw pos (keywordEach [] X.env))) := by rfl) :
    XE X C (.Call (.Attribute o m apos) (e :: es) [] pos) (methO i T ta) := PE.of (pe_meth ho c hm G hr hb .nil pass0 ha hst hpl ht) fun _ _ _ => low_methO
end
/-! ### an object made -/
def mkW (T : FS → List D3 → (FS → Prop) → Prop) (ta : TA3) : TE3 := fun ρ Q => ta ρ fun ds ρ1 => T [] ds fun fs => ∃ n b al ll, fs = [(("many" : Str), .int n), ("befores", b), ("ahead", .lst al), ("later", .lst ll)] ∧ Q (.im (.web n b al ll)) ρ1
theorem low_mkW {g : Gx} {σ : L2.St} {H : Hp} {Q : VK} {T : FS → List D3 → (FS → Prop) → Prop} {ta : TA3} {E : XK} (h : low g (mkW T ta) σ H Q) : tMake g.C (spO g T) [] E (lowA g ta) σ H Q := by
  obtain ⟨F, ρ, Q3, fr, q, k⟩ := h
  refine ⟨F, ρ, _, fr, q, fun ds ρ1 F1 H1 us h s im x dx nx nd hdx => ?_⟩
  show spO g T (.ref x :: (us ++ [])) _ _ E
  rw [List.append_nil]
  have nx2 : (upd H1 dx (.own x)) x = none := by rw [upd_ne (Ne.symm hdx)]; exact nx
  have e1 : Same H1 (upd (upd H1 dx (.own x)) x (.ins g.C dx [])) := (Same.new nd).trans (Same.new nx2)
  have fx : F1 x = none := s.fr.ex.free nx
  refine ⟨F1, x, [], ds, us, _, rfl, s.fr.ex.trans e1, ⟨dx, [], rfl, fx, upd_same, Ims.nil⟩, im, h, fun fs F' H' hq k1 k2 k3 k4 k5 rt => ⟨rfl, ?_⟩⟩
  obtain ⟨n, b, al, ll, rfl, hq⟩ := hq
  obtain ⟨dx', vs, ez, hF', hH', ims⟩ := rt
  obtain ⟨v1, r1, rfl, i1, ims⟩ := Ims.uncons ims
  obtain ⟨v2, r2, rfl, i2, ims⟩ := Ims.uncons ims
  obtain ⟨v3, r3, rfl, i3, ims⟩ := Ims.uncons ims
  obtain ⟨v4, r4, rfl, i4, ims⟩ := Ims.uncons ims
  unfold List.map Ims at ims
  subst ims
  have i1 : v1 = .int n := by unfold Im at i1; exact i1
  subst i1
  unfold Im at i3 i4
  obtain ⟨a, va, rfl, a1, a2⟩ := i3
  obtain ⟨l, vl, rfl, l1, l2⟩ := i4
  have sm : Same F' (upd F' x (.ins g.C dx' (webF n v2 a l))) := Same.new hF'
  have iw : Im g (upd F' x (.ins g.C dx' (webF n v2 a l))) (.web n b al ll) (.ref x) := by
    unfold Im
    exact ⟨x, dx', v2, a, l, va, vl, rfl, upd_same, Im.mono sm _ _ i2, sm.seq a1, Ims.mono sm _ _ a2, sm.seq l1, Ims.mono sm _ _ l2⟩
  have there : ∀ c o, H1 c = some o → c ≠ x ∧ H' c = some o := fun c o e => by
    have hc : c ≠ x := ne_of_none e nx
    exact ⟨hc, k1 c o (e1 _ _ e) hc⟩
  have away : ∀ c, F1 c = none → H1 c ≠ none → (upd F' x (.ins g.C dx' (webF n v2 a l))) c = none := fun c h1 h2 => by
    cases e : H1 c with
    | none => exact absurd e h2
    | some o =>
      obtain ⟨hc, _⟩ := there c o e
      rw [upd_ne hc]
      exact k5 c h1 (by rw [e1 _ _ e]; exact fun z => nomatch z) hc
  have st : Stp g F1 ρ1 σ H1 (upd F' x (.ins g.C dx' (webF n v2 a l))) ρ1 σ H' := by
    refine ⟨k3.trans sm, ⟨fun c o e => ?_, s.fr.len, fun i r e => ?_, s.fr.sep⟩, fun c o e _ => (there c o e).2, fun c e => ?_, fun c h1 h2 _ => away c h1 h2, fun c h => .inr h⟩
    · by_cases hc : c = x
      · subst hc
        rw [upd_same] at e
        rw [hH', ← e]
        rfl
      · rw [upd_ne hc] at e
        exact k4 _ _ e
    · obtain ⟨v, e2, rv⟩ := s.fr.rep i r e
      refine ⟨v, e2, rv.stay (k3.trans sm) fun c o o1 z1 z2 => ⟨(there c o z2).2, ?_⟩⟩
      subst z1
      obtain ⟨c', u, w1, w2, w3⟩ := rv.there o1
      cases w1
      exact away c w2 (by rw [w3]; exact fun z => nomatch z)
    · exact e1.free (k2 c e)
  exact k _ _ _ _ _ hq (s.trans st) (Res.im iw)
theorem x_make {X : Cx} {C f : Addr} {k : Nat} {fd : FuncData} {ps : List Str} {T : FS → List D3 → (FS → Prop) → Prop} {x : Str} {p pos : Pos} {e : Expr} {es : List Expr} {ta : TA3} (M : Mk X.K C f) (G : FnOk X.prog X.w X.K X.mg X.base CX0 k f fd ps (spO (gx X C) T)) (hr : Room (k + 1) X.A) (hg : Gl X x) (hm : X.mg x = some (.ref C)) (hb : Binds X.K fd ps [])
    (ha : XA X C (e :: es) ta) (hdb : (x == ("__debug__" : Str)) = false := by decide) (he : starEach (e :: es) X.env = (false, eval e X.env) :: starEach es X.env := by rfl) (hpl : (backTo pos (starEach es X.env)).any (·.1) = false := by rfl) :
    XE X C (.Call (.Name x p) (e :: es) [] pos) (mkW T ta) := PE.of (pe_make M G hr hg hm hb .nil pass0 ha hdb he hpl) fun _ _ _ => low_mkW (g := gx X C)
theorem op_neI {X : Cx} : OpR X (compareOp .NotEq) (rI0 fun i j => .bl (!decide (i = j))) := by
  intro pins s σ H x y; intro v u Q I rx ry h
  rcases h with ⟨i, j, rfl, rfl, q⟩
  refine op_ne pins s σ H _ _ v u Q I rx ry ⟨rfl, ?_⟩
  have e : decide (V.int i = V.int j) = decide (i = j) := by rw [dec_int]; rfl
  rw [e]
  exact q
/-! ### name = [(a, b) for a in range(n) for b in range(n) if a != b], frozen -/
theorem xs_setPrs {X : Cx} {C : Addr} {y a b : Str} {scope : Scope} {own : List (Str × Nat)} {en en2 : Expr} {k2 : Nat} {py spos pos p cpos p' cpos' pa pb pa2 pb2 pa3 pb3 pc pt : Pos} (i im j1 j2 : Nat) (hN : X.N.Nodup) (hgl : Gl X "range") (hm : X.mg "range" = none) (ha : PE X en (tVar im)) (ok : BlkOk X.N X.env.scope scope own)
    (hv : im ∉ own.map (·.2) := by decide) (h1 : j1 ∈ own.map (·.2) := by decide) (h2 : j2 ∈ own.map (·.2) := by decide) (h12 : j1 ≠ j2 := by decide)
    (hg : ∀ (s : Shared) (H : Hp) (B : Addr) (cl : List (Str × Addr)) (fp : List Addr), PG (X.blk s H scope (compEnvC scope cl B X.env) fp) (.Name a pa) (gName j1))
    (hi1 : ∀ (s : Shared) (H : Hp) (B : Addr) (cl : List (Str × Addr)) (fp : List Addr), PI (X.blk s H scope (compEnvC scope cl B X.env) fp) (.Name b pb) (.Call (.Name "range" p') [en2] [] cpos') (iRng1 (tCons (tVar im) tNil)))
    (hg1 : ∀ (s : Shared) (H : Hp) (B : Addr) (cl : List (Str × Addr)) (fp : List Addr), PG (X.blk s H scope (compEnvC scope cl B X.env) fp) (.Name b pb) (gName j2))
    (ht : ∀ (s : Shared) (H : Hp) (B : Addr) (cl : List (Str × Addr)) (fp : List Addr), PT (X.blk s H scope (compEnvC scope cl B X.env) fp) (.Compare (.Name a pa2) [.NotEq] [.Name b pb2] pc) (tTest (tOp (rI0 fun i j => .bl (!decide (i = j))) (tVar j1) (tVar j2))))
    (he : ∀ (s : Shared) (H : Hp) (B : Addr) (cl : List (Str × Addr)) (fp : List Addr), PE (X.blk s H scope (compEnvC scope cl B X.env) fp) (.Tuple [.Name a pa3, .Name b pb3] k2 pt) (tTup (tCons (tVar j1) (tCons (tVar j2) tNil))))
    (hc : X.calm = true := by rfl) (hy : X.N[i]? = some y := by rfl) (hyl : X.env.scope.names.lookup y = some .local := by rfl) (hl1 : j1 < X.N.length := by decide) (hl2 : j2 < X.N.length := by decide)
    (hsw : swapsWith (.ListComp (.Tuple [.Name a pa3, .Name b pb3] k2 pt) [⟨.Name a pa, .Call (.Name "range" p) [en] [] cpos, [], 0⟩, ⟨.Name b pb, .Call (.Name "range" p') [en2] [] cpos', [.Compare (.Name a pa2) [.NotEq] [.Name b pb2] pc], 0⟩] scope pos) (some (.Name y py)) spos.line X.env = pure true := by exact sw_true rfl rfl rfl (by decide +kernel))
    (s1 : starEach [en] X.env = (false, eval en X.env) :: starEach [] X.env := by rfl) (s2 : starEach [en] X.env = [(false, eval en X.env)] := by rfl) (hs : ∀ x, foldedSetIterable (.Call (.Name "range" p) [en] [] cpos) X.env x = pure x := by intro _; rfl) (hs1 : ∀ env x, foldedSetIterable (.Call (.Name "range" p') [en2] [] cpos') env x = pure x := by intro _ _; rfl) :
    XS X C (.Assign [.Name y py] (.ListComp (.Tuple [.Name a pa3, .Name b pb3] k2 pt) [⟨.Name a pa, .Call (.Name "range" p) [en] [] cpos, [], 0⟩, ⟨.Name b pb, .Call (.Name "range" p') [en2] [] cpos', [.Compare (.Name a pa2) [.NotEq] [.Name b pb2] pc], 0⟩] scope pos) spos) (asgF3 (prs3 im) i) := by
  refine ⟨?_⟩
  intro pins s σ H D I h
  have hl : σ.length = X.N.length := I.len
  refine (ps_setLc2 (vs1 := [j2]) hc hN hy hyl hsw (pi_range1 hgl hm (pa_cons ha pa_nil s1) s2) ok (by intro z hz; rw [List.mem_singleton.mp hz]; exact h2) hg (fun _ _ _ _ _ => pts_nil) hi1 hg1 (fun s H B cl fp => pts_one (ht s H B cl fp)) he hs hs1).run pins s σ H D I ?_
  have := low_asgF h
  exact low_prs hv h1 h2 h12 (by rw [hl]; exact hl1) (by rw [hl]; exact hl2) this
end L3

set_option Elab.async false
set_option autoImplicit false
set_option linter.all false
set_option maxRecDepth 100000
/-! L3, part p: the program's places, what its names hold. -/
namespace L3
open PySem PySem.Spec L2

def topS (i : Nat) : Stmt := PySem.Challenge.pw_evenorders_k65_whole_books_parted.main.body.getD i (.Pass ⟨0, 0, 0, 0⟩)
theorem hu65 {k : Nat} {A : Around} (hr : Room k A) : A.units + 65 < cLine := by have := hr.un; omega
theorem hu64 {k : Nat} {A : Around} (hr : Room k A) : A.units + 64 < cLine := by have := hr.un; omega
theorem hu9 {k : Nat} {A : Around} (hr : Room k A) : A.units + 9 < cLine := by have := hr.un; omega
theorem hu8 {k : Nat} {A : Around} (hr : Room k A) : A.units + 8 < cLine := by have := hr.un; omega
/-- what the module's names hold, built-ins and numbers -/
structure Mods (mg : Str → Option Value) : Prop where
  rng : mg "range" = none
  len : mg "len" = none
  any : mg "any" = none
  all : mg "all" = none
  tup : mg "tuple" = none
  srt : mg "sorted" = none
  lst : mg "list" = none
  isi : mg "isinstance" = none
  int : mg "int" = none
  bol : mg "bool" = none
  str : mg "str" = none
  sum : mg "sum" = none
  set : mg "set" = none
  most_deeds : ∃ t, mg "MOST_DEEDS" = some (.int 40 t)
  most_deep : ∃ t, mg "MOST_DEEP" = some (.int 6 t)
  most_name : ∃ t, mg "MOST_NAME" = some (.int 7 t)
  most_parted : ∃ t, mg "MOST_PARTED" = some (.int 4 t)
structure Callee (K : PySem.W.Frag) (mg : Str → Option Value) (x : Str) (f : Addr) (fd : FuncData) (ps : List Str) : Prop where
  (m : mg x = some (.ref f)) (kp : PySem.W.keepIn K (.ref f) = true)
  b : Binds K fd ps []
/-- a list that is looked at: frozen where it was not -/
def fzv3 (i : Nat) : TE3 := fun ρ Q => (∃ d, ρ[i]? = some (some (.im d)) ∧ Q (.im d) ρ) ∨ ∃ ds, ρ[i]? = some (some (.ls ds)) ∧ Q (.im (.lst ds)) (ρ.set i (some (.im (.lst ds))))
theorem low_fzv {g : Gx} {σ : L2.St} {H : Hp} {Q : VK} {i : Nat} (h : low g (fzv3 i) σ H Q) : tVar i σ H Q := by
  obtain ⟨F, ρ, Q3, fr, q | q, k⟩ := h
  · exact low_var (g := g) ⟨F, ρ, Q3, fr, q, k⟩
  · exact low_fz (g := g) ⟨F, ρ, Q3, fr, q, k⟩
theorem x_fzv {X : Cx} {C : Addr} (i : Nat) {x : Str} {pos : Pos} (hN : X.N[i]? = some x := by rfl) (hv : Vis X.env.scope x := by first | exact Or.inl rfl | exact Or.inr (Or.inl rfl) | exact Or.inr (Or.inr rfl)) (hd : (x == ("__debug__" : Str)) = false := by decide)
    (hcd : (x == ("__classdict__" : Str)) = false := by decide) : XE X C (.Name x pos) (fzv3 i) := PE.of (pe_var hN hv hd hcd) fun _ _ _ => low_fzv
end L3

set_option Elab.async false
set_option autoImplicit false
set_option linter.all false
set_option maxRecDepth 100000
/-! L3, part t: each def as a term of rules (printed by gen.py). -/
namespace L3
open PySem PySem.Spec L2

/-! ### is_integer -/
def N_is_integer : List Str := ["thing"]
theorem sc_is_integer : FnScope N_is_integer ["thing"] (defScope (topS 6)) := ⟨rfl, rfl, rfl, by decide +kernel, rfl, by decide +kernel, by decide +kernel⟩
def t_is_integer : TS3 :=
 (ret3 (andV (isiT .int (v3 0)) (notV (isiT .bool (v3 0)))))
theorem b_is_integer {P : Program} {w : World} {K : PySem.W.Frag} {mg : Str → Option Value} {base : Heap} {C f : Addr} {k : Nat} (M : Mods mg) (cdv : Value) (A : Around) (outer : List Env) (s : Shared) (H : Hp) (E : XK)
  (hr : Room k (A.deeper (PyProof.Rows.envOfC "is_integer" (defScope (topS 6)) s.heap.objs.size f cdv))) : XSs (cxOf CX0 P w K mg base N_is_integer "is_integer" (defScope (topS 6)) f cdv A outer s H E).nox C (defBody (topS 6)) (t_is_integer) :=
 (xs_one (xs_ret (x_and (x_isi (W := 0) (c := .int) ⟨rfl, rfl⟩ (by rfl) M.isi (x_v 0) (pe_bltn (by rfl) M.int (by decide +kernel) rfl)) (x_one (x_not (x_isi (W := 0) (c := .bool) ⟨rfl, rfl⟩ (by rfl) M.isi (x_v 0) (pe_bltn (by rfl) M.bol (by decide +kernel) rfl)))))))
/-! ### is_within -/
def N_is_within : List Str := ["thing", "least", "most"]
theorem sc_is_within : FnScope N_is_within ["thing", "least", "most"] (defScope (topS 7)) := ⟨rfl, rfl, rfl, by decide +kernel, rfl, by decide +kernel, by decide +kernel⟩
def t_is_within (T_is_integer : List D3 → (R3 → Prop) → Prop) : TS3 :=
 (ret3 (andV (callF T_is_integer (cons3 (v3 0) nil3)) (chain3 (v3 1) (v3 0) (v3 2))))
theorem b_is_within {P : Program} {w : World} {K : PySem.W.Frag} {mg : Str → Option Value} {base : Heap} {C f : Addr} {k : Nat} (M : Mods mg) {T_is_integer : List D3 → (R3 → Prop) → Prop} {k_is_integer : Nat} {f_is_integer : Addr} {d_is_integer : FuncData} {p_is_integer : List Str} (U_is_integer : Callee K mg "is_integer" f_is_integer d_is_integer p_is_integer) (G_is_integer : FnOk P w K mg base CX0 k_is_integer f_is_integer d_is_integer p_is_integer (sp3 ⟨K, C, P, w⟩ T_is_integer)) (h_is_integer : k_is_integer ≤ k) (cdv : Value) (A : Around) (outer : List Env) (s : Shared) (H : Hp) (E : XK)
  (hr : Room k (A.deeper (PyProof.Rows.envOfC "is_within" (defScope (topS 7)) s.heap.objs.size f cdv))) : XSs (cxOf CX0 P w K mg base N_is_within "is_within" (defScope (topS 7)) f cdv A outer s H E).nox C (defBody (topS 7)) (t_is_within T_is_integer) :=
 (xs_one (xs_ret (x_and (x_call G_is_integer (hr.mono h_is_integer) (by rfl) U_is_integer.m U_is_integer.kp U_is_integer.b (xa_cons (x_v 0) xa_nil)) (x_one (x_chain (x_v 1) (x_v 0) (x_v 2))))))
/-! ### check_number -/
def N_check_number : List Str := ["thing", "least", "most"]
theorem sc_check_number : FnScope N_check_number ["thing", "least", "most"] (defScope (topS 11)) := ⟨rfl, rfl, rfl, by decide +kernel, rfl, by decide +kernel, by decide +kernel⟩
def t_check_number (T_is_within : List D3 → (R3 → Prop) → Prop) : TS3 :=
 (ifS3 (not3 (tst3 (callF T_is_within (cons3 (v3 0) (cons3 (v3 1) (cons3 (v3 2) nil3)))))) never3 next3)
theorem b_check_number {P : Program} {w : World} {K : PySem.W.Frag} {mg : Str → Option Value} {base : Heap} {C f : Addr} {k : Nat} (M : Mods mg) {T_is_within : List D3 → (R3 → Prop) → Prop} {k_is_within : Nat} {f_is_within : Addr} {d_is_within : FuncData} {p_is_within : List Str} (U_is_within : Callee K mg "is_within" f_is_within d_is_within p_is_within) (G_is_within : FnOk P w K mg base CX0 k_is_within f_is_within d_is_within p_is_within (sp3 ⟨K, C, P, w⟩ T_is_within)) (h_is_within : k_is_within ≤ k) (cdv : Value) (A : Around) (outer : List Env) (s : Shared) (H : Hp) (E : XK)
  (hr : Room k (A.deeper (PyProof.Rows.envOfC "check_number" (defScope (topS 11)) s.heap.objs.size f cdv))) : XSs (cxOf CX0 P w K mg base N_check_number "check_number" (defScope (topS 11)) f cdv A outer s H E).nox C (defBody (topS 11)) (t_check_number T_is_within) :=
 (xs_one (xs_if (xt_not (xt_val (x_call G_is_within (hr.mono h_is_within) (by rfl) U_is_within.m U_is_within.kp U_is_within.b (xa_cons (x_v 0) (xa_cons (x_v 1) (xa_cons (x_v 2) xa_nil)))))) (xs_one xs_never) xs_nil))
/-! ### closed -/
def N_closed : List Str := ["many", "pairs", "found", "middle", "one", "other", "pair", "name"]
theorem sc_closed : FnScope N_closed ["many", "pairs"] (defScope (topS 14)) := ⟨rfl, rfl, rfl, by decide +kernel, rfl, by decide +kernel, by decide +kernel⟩
def t_closed : TS3 :=
 (seq3 (asg3 (dcT3 (v3 1)) 2)
 (seq3 (forR1 (v3 0) (gn3 3) (forR1 (v3 0) (gn3 4) (forR1 (v3 0) (gn3 5) (ifS3 (and3 (tst3 (op2B (in3 false) (tup3 (cons3 (v3 4) (cons3 (v3 3) nil3))) 2)) (tst3 (op2B (in3 false) (tup3 (cons3 (v3 3) (cons3 (v3 5) nil3))) 2))) (dput3 2 (tup3 (cons3 (v3 4) (cons3 (v3 5) nil3)))) next3))))
 (seq3 (ifS3 (tst3 (call1 (boolL fun bs => bs.any id) (lcR1 (v3 0) (gn3 7) yes3 (op2B (in3 false) (tup3 (cons3 (v3 7) (cons3 (v3 7) nil3))) 2) [7]))) (ret3 (c3 .non)) next3)
 (ret3 (call1 tuple3 (call1 sort3 (call1B list3 2)))))))
theorem b_closed {P : Program} {w : World} {K : PySem.W.Frag} {mg : Str → Option Value} {base : Heap} {C f : Addr} {k : Nat} (M : Mods mg) (cdv : Value) (A : Around) (outer : List Env) (s : Shared) (H : Hp) (E : XK)
  (hr : Room k (A.deeper (PyProof.Rows.envOfC "closed" (defScope (topS 14)) s.heap.objs.size f cdv))) : XSs (cxOf CX0 P w K mg base N_closed "closed" (defScope (topS 14)) f cdv A outer s H E).nox C (defBody (topS 14)) (t_closed) :=
 (xs_cons (xs_set 2 sc_closed.nd (x_dcT (hu8 hr) (x_v 1)))
 (xs_cons (xs_forR1 PassesOwn.never rfl (by rfl) M.rng (x_v 0) (pg_name (i := 3) sc_closed.nd rfl (by first | exact .inl rfl | exact .inr rfl)) gl_name (xs_one (xs_forR1 PassesOwn.never rfl (by rfl) M.rng (x_v 0) (pg_name (i := 4) sc_closed.nd rfl (by first | exact .inl rfl | exact .inr rfl)) gl_name (xs_one (xs_forR1 PassesOwn.never rfl (by rfl) M.rng (x_v 0) (pg_name (i := 5) sc_closed.nd rfl (by first | exact .inl rfl | exact .inr rfl)) gl_name (xs_one (xs_if (XW.pt (xw_and (xt_inB (hu65 hr) (x_tup (xa_cons (x_v 4) (xa_cons (x_v 3) xa_nil))) (pv 2)) (xw_and1 (xt_inB (hu65 hr) (x_tup (xa_cons (x_v 3) (xa_cons (x_v 5) xa_nil))) (pv 2))))) (xs_one (xs_dput (hu9 hr) (pv 2) (x_tup (xa_cons (x_v 4) (xa_cons (x_v 5) xa_nil))))) xs_nil)))))))
 (xs_cons (xs_if (xt_val (x_callB (cr_any rfl) cl_any (by rfl) M.any (by decide +kernel) (x_lcR1 sc_closed.nd (by rfl) M.rng (x_v 0) (blkOk_by (own := [("name", 7)]) (by kernel_rfl)) gl_name (by decide) ⟨fun _ _ _ _ _ => (pg_name (i := 7) sc_closed.nd rfl (by first | exact .inl rfl | exact .inr rfl)), fun _ _ _ _ _ => xts_nil, fun _ _ _ _ _ => (x_inB (hu65 hr) (x_tup (xa_cons (x_v 7) (xa_cons (x_v 7) xa_nil))) (pv 2))⟩))) (xs_one (xs_ret x_non)) xs_nil)
 (xs_one (xs_ret (x_callTy call_tuple_of cl_tuple (by rfl) M.tup (by decide +kernel) (x_callB (cr_sort3 (hu64 hr)) cl_sort (by rfl) M.srt (by decide +kernel) (x_callTyB (call_list3 rfl) cl_list (by rfl) M.lst (by decide +kernel) (pv 2)))))))))
/-! ### Web.keep -/
def N_Web_keep : List Str := ["self", "many", "every", "name", "one", "other"]
theorem sc_Web_keep : FnScope N_Web_keep ["self", "many", "every"] (defScope (inClass (topS 16) 1)) := ⟨rfl, rfl, rfl, by decide +kernel, rfl, by decide +kernel, by decide +kernel⟩
def t_Web_keep : TS3 :=
 (seq3 (sfld3 0 "many" (v3 1))
 (seq3 (sfld3 0 "befores" (v3 2))
 (seq3 (sfld3 0 "ahead" (lcR1 (v3 1) (gn3 3) yes3 (call1 tuple3 (lcT3 (v3 2) (gp3 4 5) (tst3 (op2 (eq3 false) (v3 5) (v3 3))) (v3 4) [4, 5])) [3]))
 (sfld3 0 "later" (lcR1 (v3 1) (gn3 3) yes3 (call1 tuple3 (lcT3 (v3 2) (gp3 4 5) (tst3 (op2 (eq3 false) (v3 4) (v3 3))) (v3 5) [4, 5])) [3])))))
theorem b_Web_keep {P : Program} {w : World} {K : PySem.W.Frag} {mg : Str → Option Value} {base : Heap} {C f : Addr} {k : Nat} (M : Mods mg) (WC : WebC K C) (cdv : Value) (A : Around) (outer : List Env) (s : Shared) (H : Hp) (E : XK)
  (hr : Room k (A.deeper (PyProof.Rows.envOfC "Web.keep" (defScope (inClass (topS 16) 1)) s.heap.objs.size f cdv))) : XSs (cxOf CX0 P w K mg base N_Web_keep "Web.keep" (defScope (inClass (topS 16) 1)) f cdv A outer s H E).nox C (defBody (inClass (topS 16) 1)) (t_Web_keep) :=
 (xs_cons (xs_sfld WC.cl WC.nM (pv 0) (x_v 1))
 (xs_cons (xs_sfld WC.cl WC.nB (pv 0) (x_v 2))
 (xs_cons (xs_sfld WC.cl WC.nA (pv 0) (x_lcR1 sc_Web_keep.nd (by rfl) M.rng (x_v 1) (blkOk_by (own := [("name", 3)]) (by kernel_rfl)) gl_name (by decide) ⟨fun _ _ _ _ _ => (pg_name (i := 3) sc_Web_keep.nd rfl (by first | exact .inl rfl | exact .inr rfl)), fun _ _ _ _ _ => xts_nil, fun _ _ _ _ _ => (x_callTy call_tuple_of cl_tuple (by rfl) M.tup (by decide +kernel) (x_lcT sc_Web_keep.nd (x_v 2) (blkOk_by (own := [("one", 4), ("other", 5)]) (by kernel_rfl)) gl_pair (by decide) ⟨fun _ _ _ _ _ => (pg_pair 4 5 sc_Web_keep.nd), fun _ _ _ _ _ => (xts_one (xt_eq (hu64 hr) (x_v 5) (x_v 3))), fun _ _ _ _ _ => (x_v 4)⟩))⟩))
 (xs_one (xs_sfld WC.cl WC.nL (pv 0) (x_lcR1 sc_Web_keep.nd (by rfl) M.rng (x_v 1) (blkOk_by (own := [("name", 3)]) (by kernel_rfl)) gl_name (by decide) ⟨fun _ _ _ _ _ => (pg_name (i := 3) sc_Web_keep.nd rfl (by first | exact .inl rfl | exact .inr rfl)), fun _ _ _ _ _ => xts_nil, fun _ _ _ _ _ => (x_callTy call_tuple_of cl_tuple (by rfl) M.tup (by decide +kernel) (x_lcT sc_Web_keep.nd (x_v 2) (blkOk_by (own := [("one", 4), ("other", 5)]) (by kernel_rfl)) gl_pair (by decide) ⟨fun _ _ _ _ _ => (pg_pair 4 5 sc_Web_keep.nd), fun _ _ _ _ _ => (xts_one (xt_eq (hu64 hr) (x_v 4) (x_v 3))), fun _ _ _ _ _ => (x_v 5)⟩))⟩))))))
/-! ### RawWeb.__init__ -/
def N_RawWeb_init : List Str := ["self", "many", "every"]
theorem sc_RawWeb_init : FnScope N_RawWeb_init ["self", "many", "every"] (defScope (inClass (topS 17) 0)) := ⟨rfl, rfl, rfl, by decide +kernel, rfl, by decide +kernel, by decide +kernel⟩
def t_RawWeb_init (T_keep : FS → List D3 → (FS → Prop) → Prop) : TS3 :=
 (drop3 (methO 0 T_keep (cons3 (v3 1) (cons3 (v3 2) nil3))))
theorem b_RawWeb_init {P : Program} {w : World} {K : PySem.W.Frag} {mg : Str → Option Value} {base : Heap} {C f : Addr} {k : Nat} (M : Mods mg) {T_keep : FS → List D3 → (FS → Prop) → Prop} {k_keep : Nat} {f_keep : Addr} {d_keep : FuncData} {p_keep : List Str} (cl_ : Cls K C) (mt_keep : Meth K C "keep" f_keep) (b_keep : Binds K d_keep p_keep []) (G_keep : FnOk P w K mg base CX0 k_keep f_keep d_keep p_keep (spO ⟨K, C, P, w⟩ T_keep)) (h_keep : k_keep ≤ k) (cdv : Value) (A : Around) (outer : List Env) (s : Shared) (H : Hp) (E : XK)
  (hr : Room k (A.deeper (PyProof.Rows.envOfC "RawWeb.__init__" (defScope (inClass (topS 17) 0)) s.heap.objs.size f cdv))) : XSs (cxOf CX0 P w K mg base N_RawWeb_init "RawWeb.__init__" (defScope (inClass (topS 17) 0)) f cdv A outer s H E).nox C (defBody (inClass (topS 17) 0)) (t_RawWeb_init T_keep) :=
 (xs_one (xs_expr (x_methO cl_ mt_keep G_keep (hr.mono h_keep) b_keep (pv 0) (xa_cons (x_v 1) (xa_cons (x_v 2) xa_nil)))))
/-! ### raw_web -/
def N_raw_web : List Str := ["many", "every"]
theorem sc_raw_web : FnScope N_raw_web ["many", "every"] (defScope (topS 18)) := ⟨rfl, rfl, rfl, by decide +kernel, rfl, by decide +kernel, by decide +kernel⟩
def t_raw_web (T_init : FS → List D3 → (FS → Prop) → Prop) : TS3 :=
 (ret3 (mkW T_init (cons3 (v3 0) (cons3 (call1 tuple3 (call1 sort3 (call1 list3 (v3 1)))) nil3))))
theorem b_raw_web {P : Program} {w : World} {K : PySem.W.Frag} {mg : Str → Option Value} {base : Heap} {C f : Addr} {k : Nat} (M : Mods mg) {T_init : FS → List D3 → (FS → Prop) → Prop} {k_init : Nat} {f_init : Addr} {d_init : FuncData} {p_init : List Str} (mk_ : Mk K C f_init) (m_RawWeb : mg "RawWeb" = some (.ref C)) (b_init : Binds K d_init p_init []) (G_init : FnOk P w K mg base CX0 k_init f_init d_init p_init (spO ⟨K, C, P, w⟩ T_init)) (h_init : k_init + 1 ≤ k) (cdv : Value) (A : Around) (outer : List Env) (s : Shared) (H : Hp) (E : XK)
  (hr : Room k (A.deeper (PyProof.Rows.envOfC "raw_web" (defScope (topS 18)) s.heap.objs.size f cdv))) : XSs (cxOf CX0 P w K mg base N_raw_web "raw_web" (defScope (topS 18)) f cdv A outer s H E).nox C (defBody (topS 18)) (t_raw_web T_init) :=
 (xs_one (xs_ret (x_make mk_ G_init (hr.mono h_init) (by rfl) m_RawWeb b_init (xa_cons (x_v 0) (xa_cons (x_callTy call_tuple_of cl_tuple (by rfl) M.tup (by decide +kernel) (x_callB (cr_sort3 (hu64 hr)) cl_sort (by rfl) M.srt (by decide +kernel) (x_callTy (call_list3 rfl) cl_list (by rfl) M.lst (by decide +kernel) (x_v 1)))) xa_nil)))))
/-! ### free_names -/
def N_free_names : List Str := ["web", "lot", "found", "name", "other"]
theorem sc_free_names : FnScope N_free_names ["web", "lot"] (defScope (topS 19)) := ⟨rfl, rfl, rfl, by decide +kernel, rfl, by decide +kernel, by decide +kernel⟩
def t_free_names : TS3 :=
 (seq3 (asg3 (lst3 nil3) 2)
 (seq3 (forR1 (fld3 (fun n _ _ _ => .int n) (v3 0)) (gn3 3) (ifS3 (and3 (tst3 (op2 (in3 true) (v3 3) (v3 1))) (tst3 (call1 (boolL fun bs => bs.all id) (lcT3 (op2 ix3 (fld3 (fun _ _ al _ => .lst al) (v3 0)) (v3 3)) (gn3 4) yes3 (op2 (in3 false) (v3 4) (v3 1)) [4])))) (app3 2 (v3 3)) next3))
 (ret3 (mv3 2))))
theorem b_free_names {P : Program} {w : World} {K : PySem.W.Frag} {mg : Str → Option Value} {base : Heap} {C f : Addr} {k : Nat} (M : Mods mg) (WC : WebC K C) (cdv : Value) (A : Around) (outer : List Env) (s : Shared) (H : Hp) (E : XK)
  (hr : Room k (A.deeper (PyProof.Rows.envOfC "free_names" (defScope (topS 19)) s.heap.objs.size f cdv))) : XSs (cxOf CX0 P w K mg base N_free_names "free_names" (defScope (topS 19)) f cdv A outer s H E).nox C (defBody (topS 19)) (t_free_names) :=
 (xs_cons (xs_set 2 sc_free_names.nd (x_lst xa_nil))
 (xs_cons (xs_forR1 PassesOwn.never rfl (by rfl) M.rng (x_many WC (x_v 0)) (pg_name (i := 3) sc_free_names.nd rfl (by first | exact .inl rfl | exact .inr rfl)) gl_name (xs_one (xs_if (XW.pt (xw_and (xt_notIn (hu65 hr) (x_v 3) (x_v 1)) (xw_and1 (xt_val (x_callB (cr_all rfl) cl_all (by rfl) M.all (by decide +kernel) (x_lcT sc_free_names.nd (x_ix (x_ahead WC (x_v 0)) (x_v 3)) (blkOk_by (own := [("other", 4)]) (by kernel_rfl)) gl_name (by decide) ⟨fun _ _ _ _ _ => (pg_name (i := 4) sc_free_names.nd rfl (by first | exact .inl rfl | exact .inr rfl)), fun _ _ _ _ _ => xts_nil, fun _ _ _ _ _ => (x_in (hu65 hr) (x_v 4) (x_v 1))⟩)))))) (xs_one (xs_app (pv 2) (x_v 3))) xs_nil)))
 (xs_one (xs_ret (x_mv 2)))))
/-! ### every_web -/
def N_every_web : List Str := ["many", "pairs", "found", "waiting", "befores", "one", "other", "more"]
theorem sc_every_web : FnScope N_every_web ["many"] (defScope (topS 21)) := ⟨rfl, rfl, rfl, by decide +kernel, rfl, by decide +kernel, by decide +kernel⟩
def t_every_web (T_closed : List D3 → (R3 → Prop) → Prop) (T_raw_web : List D3 → (R3 → Prop) → Prop) : TS3 :=
 (seq3 (asgF3 (prs3 0) 1)
 (seq3 (asg3 (disp1 (tup3 nil3)) 2)
 (seq3 (asg3 (lst3 (cons3 (tup3 nil3) nil3)) 3)
 (seq3 (while3 (tst3 (op2 gt3 (call1B len3 3) (c3 (.int 0)))) (seq3 (asg3 (pop3 3) 4)
 (forL3 (v3 1) (gp3 5 6) (ifS3 (and3 (tst3 (op2 (in3 true) (tup3 (cons3 (v3 5) (cons3 (v3 6) nil3))) (v3 4))) (tst3 (op2 (in3 true) (tup3 (cons3 (v3 6) (cons3 (v3 5) nil3))) (v3 4)))) (seq3 (asg3 (callF T_closed (cons3 (v3 0) (cons3 (op2 add3 (v3 4) (tup3 (cons3 (tup3 (cons3 (v3 5) (cons3 (v3 6) nil3))) nil3))) nil3))) 7)
 (ifS3 (tst3 (op2B (in3 true) (v3 7) 2)) (seq3 (dput3 2 (v3 7))
 (app3 3 (v3 7))) next3)) next3))))
 (ret3 (lcL3 (call1 sort3 (call1B list3 2)) (gn3 4) yes3 (callF T_raw_web (cons3 (v3 0) (cons3 (v3 4) nil3))) [4]))))))
theorem b_every_web {P : Program} {w : World} {K : PySem.W.Frag} {mg : Str → Option Value} {base : Heap} {C f : Addr} {k : Nat} (M : Mods mg) {T_closed : List D3 → (R3 → Prop) → Prop} {k_closed : Nat} {f_closed : Addr} {d_closed : FuncData} {p_closed : List Str} (U_closed : Callee K mg "closed" f_closed d_closed p_closed) (G_closed : FnOk P w K mg base CX0 k_closed f_closed d_closed p_closed (sp3 ⟨K, C, P, w⟩ T_closed)) (h_closed : k_closed ≤ k) {T_raw_web : List D3 → (R3 → Prop) → Prop} {k_raw_web : Nat} {f_raw_web : Addr} {d_raw_web : FuncData} {p_raw_web : List Str} (U_raw_web : Callee K mg "raw_web" f_raw_web d_raw_web p_raw_web) (G_raw_web : FnOk P w K mg base CX0 k_raw_web f_raw_web d_raw_web p_raw_web (sp3 ⟨K, C, P, w⟩ T_raw_web)) (h_raw_web : k_raw_web ≤ k) (cdv : Value) (A : Around) (outer : List Env) (s : Shared) (H : Hp) (E : XK)
  (hr : Room k (A.deeper (PyProof.Rows.envOfC "every_web" (defScope (topS 21)) s.heap.objs.size f cdv))) : XSs (cxOf CX0 P w K mg base N_every_web "every_web" (defScope (topS 21)) f cdv A outer s H E).nox C (defBody (topS 21)) (t_every_web T_closed T_raw_web) :=
 (xs_cons (xs_setPrs 1 0 5 6 sc_every_web.nd (by rfl) M.rng (pv 0) (blkOk_by (own := [("one", 5), ("other", 6)]) (by kernel_rfl)) (hg := fun _ _ _ _ _ => pg_name (i := 5) sc_every_web.nd rfl (by first | exact .inl rfl | exact .inr rfl)) (hi1 := fun _ _ _ _ _ => pi_range1 (by rfl) M.rng (pa_cons (pv 0) pa_nil (by rfl)) (by rfl)) (hg1 := fun _ _ _ _ _ => pg_name (i := 6) sc_every_web.nd rfl (by first | exact .inl rfl | exact .inr rfl)) (ht := fun _ _ _ _ _ => pt_cmpR op_neI (pv 5) (pv 6) (nomark _)) (he := fun _ _ _ _ _ => pe_tup (pa_cons (pv 5) (pa_cons (pv 6) pa_nil))) (hl1 := by show 5 < 8; decide) (hl2 := by show 6 < 8; decide))
 (xs_cons (xs_set 2 sc_every_web.nd (x_disp1 (hu8 hr) (x_tup xa_nil)))
 (xs_cons (xs_set 3 sc_every_web.nd (x_lst (xa_cons (x_tup xa_nil) xa_nil)))
 (xs_cons (xs_while PassesOwn.never (xt_gt (x_callBB call_len_seq cl_len (by rfl) M.len (by decide +kernel) (pv 3)) x_int) (xs_cons (xs_set 4 sc_every_web.nd (x_pop (pv 3)))
 (xs_one (xs_forL PassesOwn.never rfl (x_v 1) (pg_pair 5 6 sc_every_web.nd) gl_pair (xs_one (xs_if (XW.pt (xw_and (xt_notIn (hu65 hr) (x_tup (xa_cons (x_v 5) (xa_cons (x_v 6) xa_nil))) (x_v 4)) (xw_and1 (xt_notIn (hu65 hr) (x_tup (xa_cons (x_v 6) (xa_cons (x_v 5) xa_nil))) (x_v 4))))) (xs_cons (xs_set 7 sc_every_web.nd (x_call G_closed (hr.mono h_closed) (by rfl) U_closed.m U_closed.kp U_closed.b (xa_cons (x_v 0) (xa_cons (x_add (x_v 4) (x_tup (xa_cons (x_tup (xa_cons (x_v 5) (xa_cons (x_v 6) xa_nil))) xa_nil))) xa_nil))))
 (xs_one (xs_if (xt_notInB (hu65 hr) (x_v 7) (pv 2)) (xs_cons (xs_dput (hu9 hr) (pv 2) (x_v 7))
 (xs_one (xs_app (pv 3) (x_v 7)))) xs_nil))) xs_nil))))))
 (xs_one (xs_ret (x_lcL sc_every_web.nd (x_callB (cr_sort3 (hu64 hr)) cl_sort (by rfl) M.srt (by decide +kernel) (x_callTyB (call_list3 rfl) cl_list (by rfl) M.lst (by decide +kernel) (pv 2))) (blkOk_by (own := [("befores", 4)]) (by kernel_rfl)) gl_name (by decide) ⟨fun _ _ _ _ _ => (pg_name (i := 4) sc_every_web.nd rfl (by first | exact .inl rfl | exact .inr rfl)), fun _ _ _ _ _ => xts_nil, fun _ _ _ _ _ => (x_call G_raw_web (hr.mono h_raw_web) (by rfl) U_raw_web.m U_raw_web.kp U_raw_web.b (xa_cons (x_v 0) (xa_cons (x_v 4) xa_nil)))⟩)))))))
/-! ### webs_up_to -/
def N_webs_up_to : List Str := ["many", "found", "names"]
theorem sc_webs_up_to : FnScope N_webs_up_to ["many"] (defScope (topS 22)) := ⟨rfl, rfl, rfl, by decide +kernel, rfl, by decide +kernel, by decide +kernel⟩
def t_webs_up_to (T_every_web : List D3 → (R3 → Prop) → Prop) : TS3 :=
 (seq3 (asg3 (lst3 nil3) 1)
 (seq3 (forR2 (c3 (.int 1)) (op2 add3 (v3 0) (c3 (.int 1))) (gn3 2) (ext3 1 (callF T_every_web (cons3 (v3 2) nil3))))
 (ret3 (mv3 1))))
theorem b_webs_up_to {P : Program} {w : World} {K : PySem.W.Frag} {mg : Str → Option Value} {base : Heap} {C f : Addr} {k : Nat} (M : Mods mg) {T_every_web : List D3 → (R3 → Prop) → Prop} {k_every_web : Nat} {f_every_web : Addr} {d_every_web : FuncData} {p_every_web : List Str} (U_every_web : Callee K mg "every_web" f_every_web d_every_web p_every_web) (G_every_web : FnOk P w K mg base CX0 k_every_web f_every_web d_every_web p_every_web (sp3 ⟨K, C, P, w⟩ T_every_web)) (h_every_web : k_every_web ≤ k) (cdv : Value) (A : Around) (outer : List Env) (s : Shared) (H : Hp) (E : XK)
  (hr : Room k (A.deeper (PyProof.Rows.envOfC "webs_up_to" (defScope (topS 22)) s.heap.objs.size f cdv))) : XSs (cxOf CX0 P w K mg base N_webs_up_to "webs_up_to" (defScope (topS 22)) f cdv A outer s H E).nox C (defBody (topS 22)) (t_webs_up_to T_every_web) :=
 (xs_cons (xs_set 1 sc_webs_up_to.nd (x_lst xa_nil))
 (xs_cons (xs_forR2 PassesOwn.never rfl (by rfl) M.rng x_int (x_add (x_v 0) x_int) (pg_name (i := 2) sc_webs_up_to.nd rfl (by first | exact .inl rfl | exact .inr rfl)) gl_name (xs_one (xs_ext (pv 1) (x_call G_every_web (hr.mono h_every_web) (by rfl) U_every_web.m U_every_web.kp U_every_web.b (xa_cons (x_v 2) xa_nil)))))
 (xs_one (xs_ret (x_mv 1)))))
/-! ### all_orders -/
def N_all_orders : List Str := ["web", "found", "turn", "later", "row", "name"]
theorem sc_all_orders : FnScope N_all_orders ["web"] (defScope (topS 24)) := ⟨rfl, rfl, rfl, by decide +kernel, rfl, by decide +kernel, by decide +kernel⟩
def t_all_orders (T_free_names : List D3 → (R3 → Prop) → Prop) : TS3 :=
 (seq3 (asg3 (lst3 (cons3 (tup3 nil3) nil3)) 1)
 (seq3 (forR1 (fld3 (fun n _ _ _ => .int n) (v3 0)) (gn3 2) (seq3 (asg3 (lst3 nil3) 3)
 (seq3 (forL3 (fzv3 1) (gn3 4) (ext3 3 (lcL3 (callF T_free_names (cons3 (v3 0) (cons3 (v3 4) nil3))) (gn3 5) yes3 (op2 add3 (v3 4) (tup3 (cons3 (v3 5) nil3))) [5])))
 (asg3 (mv3 3) 1))))
 (ret3 (mv3 1))))
theorem b_all_orders {P : Program} {w : World} {K : PySem.W.Frag} {mg : Str → Option Value} {base : Heap} {C f : Addr} {k : Nat} (M : Mods mg) {T_free_names : List D3 → (R3 → Prop) → Prop} {k_free_names : Nat} {f_free_names : Addr} {d_free_names : FuncData} {p_free_names : List Str} (U_free_names : Callee K mg "free_names" f_free_names d_free_names p_free_names) (G_free_names : FnOk P w K mg base CX0 k_free_names f_free_names d_free_names p_free_names (sp3 ⟨K, C, P, w⟩ T_free_names)) (h_free_names : k_free_names ≤ k) (WC : WebC K C) (cdv : Value) (A : Around) (outer : List Env) (s : Shared) (H : Hp) (E : XK)
  (hr : Room k (A.deeper (PyProof.Rows.envOfC "all_orders" (defScope (topS 24)) s.heap.objs.size f cdv))) : XSs (cxOf CX0 P w K mg base N_all_orders "all_orders" (defScope (topS 24)) f cdv A outer s H E).nox C (defBody (topS 24)) (t_all_orders T_free_names) :=
 (xs_cons (xs_set 1 sc_all_orders.nd (x_lst (xa_cons (x_tup xa_nil) xa_nil)))
 (xs_cons (xs_forR1 PassesOwn.never rfl (by rfl) M.rng (x_many WC (x_v 0)) (pg_name (i := 2) sc_all_orders.nd rfl (by first | exact .inl rfl | exact .inr rfl)) gl_name (xs_cons (xs_set 3 sc_all_orders.nd (x_lst xa_nil))
 (xs_cons (xs_forL PassesOwn.never rfl (x_fzv 1) (pg_name (i := 4) sc_all_orders.nd rfl (by first | exact .inl rfl | exact .inr rfl)) gl_name (xs_one (xs_ext (pv 3) (x_lcL sc_all_orders.nd (x_call G_free_names (hr.mono h_free_names) (by rfl) U_free_names.m U_free_names.kp U_free_names.b (xa_cons (x_v 0) (xa_cons (x_v 4) xa_nil))) (blkOk_by (own := [("name", 5)]) (by kernel_rfl)) gl_name (by decide) ⟨fun _ _ _ _ _ => (pg_name (i := 5) sc_all_orders.nd rfl (by first | exact .inl rfl | exact .inr rfl)), fun _ _ _ _ _ => xts_nil, fun _ _ _ _ _ => (x_add (x_v 4) (x_tup (xa_cons (x_v 5) xa_nil)))⟩))))
 (xs_one (xs_set 1 sc_all_orders.nd (x_mv 3))))))
 (xs_one (xs_ret (x_mv 1)))))
/-! ### deeds_in -/
def N_deeds_in : List Str := ["thing", "deep", "found", "deed", "many"]
theorem sc_deeds_in : FnScope N_deeds_in ["thing", "deep"] (defScope (topS 30)) := ⟨rfl, rfl, rfl, by decide +kernel, rfl, by decide +kernel, by decide +kernel⟩
def t_deeds_in (T_deeds_of : List D3 → (R3 → Prop) → Prop) : TS3 :=
 (seq3 (ifS3 (or3 (not3 (tst3 (isiT .tup (v3 0)))) (or3 (tst3 (op2 (eq3 false) (call1 len3 (v3 0)) (c3 (.int 0)))) (tst3 (op2 gt3 (v3 1) (c3 (.int 6)))))) (ret3 (c3 .non)) next3)
 (seq3 (asg3 (c3 (.int 0)) 2)
 (seq3 (forT3 (v3 0) (gn3 3) (seq3 (asg3 (callF T_deeds_of (cons3 (v3 3) (cons3 (v3 1) nil3))) 4)
 (seq3 (ifS3 (tst3 (op2 (isN3 false) (v3 4) (c3 .non))) (ret3 (c3 .non)) next3)
 (has3 2 (aug3 2 (int20 fun i j => .int (i + j)) (v3 4))))))
 (ret3 (v3 2)))))
theorem b_deeds_in {P : Program} {w : World} {K : PySem.W.Frag} {mg : Str → Option Value} {base : Heap} {C f : Addr} {k : Nat} (M : Mods mg) {T_deeds_of : List D3 → (R3 → Prop) → Prop} {k_deeds_of : Nat} {f_deeds_of : Addr} {d_deeds_of : FuncData} {p_deeds_of : List Str} (U_deeds_of : Callee K mg "deeds_of" f_deeds_of d_deeds_of p_deeds_of) (G_deeds_of : FnOk P w K mg base CX0 k_deeds_of f_deeds_of d_deeds_of p_deeds_of (sp3 ⟨K, C, P, w⟩ T_deeds_of)) (h_deeds_of : k_deeds_of ≤ k) (cdv : Value) (A : Around) (outer : List Env) (s : Shared) (H : Hp) (E : XK)
  (hr : Room k (A.deeper (PyProof.Rows.envOfC "deeds_in" (defScope (topS 30)) s.heap.objs.size f cdv))) : XSs (cxOf CX0 P w K mg base N_deeds_in "deeds_in" (defScope (topS 30)) f cdv A outer s H E).nox C (defBody (topS 30)) (t_deeds_in T_deeds_of) :=
 (xs_cons (xs_if (XW.pt (xw_or (xt_not (xt_val (x_isi (W := 0) (c := .tup) ⟨rfl, rfl⟩ (by rfl) M.isi (x_v 0) (pe_bltn (by rfl) M.tup (by decide +kernel) rfl)))) (xw_or (xt_eq (hu64 hr) (x_callB call_len_seq cl_len (by rfl) M.len (by decide +kernel) (x_v 0)) x_int) (xw_or1 (xt_gt (x_v 1) (x_gint (by rfl) M.most_deep.choose_spec)))))) (xs_one (xs_ret x_non)) xs_nil)
 (xs_cons (xs_set 2 sc_deeds_in.nd x_int)
 (xs_cons (xs_forT PassesOwn.never rfl (x_v 0) (pg_name (i := 3) sc_deeds_in.nd rfl (by first | exact .inl rfl | exact .inr rfl)) gl_name (xs_cons (xs_set 4 sc_deeds_in.nd (x_call G_deeds_of (hr.mono h_deeds_of) (by rfl) U_deeds_of.m U_deeds_of.kp U_deeds_of.b (xa_cons (x_v 3) (xa_cons (x_v 1) xa_nil))))
 (xs_cons (xs_if (xt_isN (x_v 4) x_non) (xs_one (xs_ret x_non)) xs_nil)
 (xs_one (xs_augAdd 2 sc_deeds_in.nd (x_v 4))))))
 (xs_one (xs_ret (x_v 2))))))
/-! ### deeds_of -/
def N_deeds_of : List Str := ["thing", "deep", "first", "second"]
theorem sc_deeds_of : FnScope N_deeds_of ["thing", "deep"] (defScope (topS 31)) := ⟨rfl, rfl, rfl, by decide +kernel, rfl, by decide +kernel, by decide +kernel⟩
def t_deeds_of (T_is_within : List D3 → (R3 → Prop) → Prop) (T_deeds_in : List D3 → (R3 → Prop) → Prop) : TS3 :=
 (seq3 (ifS3 (or3 (not3 (tst3 (isiT .tup (v3 0)))) (or3 (tst3 (op2 (eq3 false) (call1 len3 (v3 0)) (c3 (.int 0)))) (not3 (tst3 (isiT .str (op2 ix3 (v3 0) (c3 (.int 0)))))))) (ret3 (c3 .non)) next3)
 (seq3 (ifS3 (tst3 (op2 (in3 false) (op2 ix3 (v3 0) (c3 (.int 0))) (tup3 (cons3 (c3 (.str "front")) (cons3 (c3 (.str "back")) nil3))))) (ret3 (if3 (tst3 (op2 (eq3 false) (call1 len3 (v3 0)) (c3 (.int 1)))) (c3 (.int 1)) (c3 .non))) next3)
 (seq3 (ifS3 (or3 (tst3 (op2 (eq3 true) (op2 ix3 (v3 0) (c3 (.int 0))) (c3 (.str "if")))) (or3 (tst3 (op2 (eq3 true) (call1 len3 (v3 0)) (c3 (.int 4)))) (not3 (tst3 (callF T_is_within (cons3 (op2 ix3 (v3 0) (c3 (.int 1))) (cons3 (c3 (.int 0)) (cons3 (c3 (.int 7)) nil3)))))))) (ret3 (c3 .non)) next3)
 (seq3 (asg3 (callF T_deeds_in (cons3 (op2 ix3 (v3 0) (c3 (.int 2))) (cons3 (op2 add3 (v3 1) (c3 (.int 1))) nil3))) 2)
 (seq3 (asg3 (callF T_deeds_in (cons3 (op2 ix3 (v3 0) (c3 (.int 3))) (cons3 (op2 add3 (v3 1) (c3 (.int 1))) nil3))) 3)
 (ret3 (if3 (or3 (tst3 (op2 (isN3 false) (v3 2) (c3 .non))) (tst3 (op2 (isN3 false) (v3 3) (c3 .non)))) (c3 .non) (op2 add3 (op2 add3 (v3 2) (v3 3)) (c3 (.int 1))))))))))
theorem b_deeds_of {P : Program} {w : World} {K : PySem.W.Frag} {mg : Str → Option Value} {base : Heap} {C f : Addr} {k : Nat} (M : Mods mg) {T_is_within : List D3 → (R3 → Prop) → Prop} {k_is_within : Nat} {f_is_within : Addr} {d_is_within : FuncData} {p_is_within : List Str} (U_is_within : Callee K mg "is_within" f_is_within d_is_within p_is_within) (G_is_within : FnOk P w K mg base CX0 k_is_within f_is_within d_is_within p_is_within (sp3 ⟨K, C, P, w⟩ T_is_within)) (h_is_within : k_is_within ≤ k) {T_deeds_in : List D3 → (R3 → Prop) → Prop} {k_deeds_in : Nat} {f_deeds_in : Addr} {d_deeds_in : FuncData} {p_deeds_in : List Str} (U_deeds_in : Callee K mg "deeds_in" f_deeds_in d_deeds_in p_deeds_in) (G_deeds_in : FnOk P w K mg base CX0 k_deeds_in f_deeds_in d_deeds_in p_deeds_in (sp3 ⟨K, C, P, w⟩ T_deeds_in)) (h_deeds_in : k_deeds_in ≤ k) (cdv : Value) (A : Around) (outer : List Env) (s : Shared) (H : Hp) (E : XK)
  (hr : Room k (A.deeper (PyProof.Rows.envOfC "deeds_of" (defScope (topS 31)) s.heap.objs.size f cdv))) : XSs (cxOf CX0 P w K mg base N_deeds_of "deeds_of" (defScope (topS 31)) f cdv A outer s H E).nox C (defBody (topS 31)) (t_deeds_of T_is_within T_deeds_in) :=
 (xs_cons (xs_if (XW.pt (xw_or (xt_not (xt_val (x_isi (W := 0) (c := .tup) ⟨rfl, rfl⟩ (by rfl) M.isi (x_v 0) (pe_bltn (by rfl) M.tup (by decide +kernel) rfl)))) (xw_or (xt_eq (hu64 hr) (x_callB call_len_seq cl_len (by rfl) M.len (by decide +kernel) (x_v 0)) x_int) (xw_or1 (xt_not (xt_val (x_isi (W := 0) (c := .str) ⟨rfl, rfl⟩ (by rfl) M.isi (x_ix (x_v 0) x_int) (pe_bltn (by rfl) M.str (by decide +kernel) rfl)))))))) (xs_one (xs_ret x_non)) xs_nil)
 (xs_cons (xs_if (xt_in (hu65 hr) (x_ix (x_v 0) x_int) (x_tup (xa_cons x_str (xa_cons x_str xa_nil)))) (xs_one (xs_ret (x_if (xt_eq (hu64 hr) (x_callB call_len_seq cl_len (by rfl) M.len (by decide +kernel) (x_v 0)) x_int) x_int x_non))) xs_nil)
 (xs_cons (xs_if (XW.pt (xw_or (xt_ne (hu64 hr) (x_ix (x_v 0) x_int) x_str) (xw_or (xt_ne (hu64 hr) (x_callB call_len_seq cl_len (by rfl) M.len (by decide +kernel) (x_v 0)) x_int) (xw_or1 (xt_not (xt_val (x_call G_is_within (hr.mono h_is_within) (by rfl) U_is_within.m U_is_within.kp U_is_within.b (xa_cons (x_ix (x_v 0) x_int) (xa_cons x_int (xa_cons (x_gint (by rfl) M.most_name.choose_spec) xa_nil)))))))))) (xs_one (xs_ret x_non)) xs_nil)
 (xs_cons (xs_set 2 sc_deeds_of.nd (x_call G_deeds_in (hr.mono h_deeds_in) (by rfl) U_deeds_in.m U_deeds_in.kp U_deeds_in.b (xa_cons (x_ix (x_v 0) x_int) (xa_cons (x_add (x_v 1) x_int) xa_nil))))
 (xs_cons (xs_set 3 sc_deeds_of.nd (x_call G_deeds_in (hr.mono h_deeds_in) (by rfl) U_deeds_in.m U_deeds_in.kp U_deeds_in.b (xa_cons (x_ix (x_v 0) x_int) (xa_cons (x_add (x_v 1) x_int) xa_nil))))
 (xs_one (xs_ret (x_if (XW.pt (xw_or (xt_isN (x_v 2) x_non) (xw_or1 (xt_isN (x_v 3) x_non)))) x_non (x_add (x_add (x_v 2) (x_v 3)) x_int)))))))))
/-! ### is_book -/
def N_is_book : List Str := ["thing", "many"]
theorem sc_is_book : FnScope N_is_book ["thing"] (defScope (topS 32)) := ⟨rfl, rfl, rfl, by decide +kernel, rfl, by decide +kernel, by decide +kernel⟩
def t_is_book (T_deeds_in : List D3 → (R3 → Prop) → Prop) : TS3 :=
 (seq3 (asg3 (callF T_deeds_in (cons3 (v3 0) (cons3 (c3 (.int 1)) nil3))) 1)
 (ret3 (andV (op2 (isN3 true) (v3 1) (c3 .non)) (op2 le3 (v3 1) (c3 (.int 40))))))
theorem b_is_book {P : Program} {w : World} {K : PySem.W.Frag} {mg : Str → Option Value} {base : Heap} {C f : Addr} {k : Nat} (M : Mods mg) {T_deeds_in : List D3 → (R3 → Prop) → Prop} {k_deeds_in : Nat} {f_deeds_in : Addr} {d_deeds_in : FuncData} {p_deeds_in : List Str} (U_deeds_in : Callee K mg "deeds_in" f_deeds_in d_deeds_in p_deeds_in) (G_deeds_in : FnOk P w K mg base CX0 k_deeds_in f_deeds_in d_deeds_in p_deeds_in (sp3 ⟨K, C, P, w⟩ T_deeds_in)) (h_deeds_in : k_deeds_in ≤ k) (cdv : Value) (A : Around) (outer : List Env) (s : Shared) (H : Hp) (E : XK)
  (hr : Room k (A.deeper (PyProof.Rows.envOfC "is_book" (defScope (topS 32)) s.heap.objs.size f cdv))) : XSs (cxOf CX0 P w K mg base N_is_book "is_book" (defScope (topS 32)) f cdv A outer s H E).nox C (defBody (topS 32)) (t_is_book T_deeds_in) :=
 (xs_cons (xs_set 1 sc_is_book.nd (x_call G_deeds_in (hr.mono h_deeds_in) (by rfl) U_deeds_in.m U_deeds_in.kp U_deeds_in.b (xa_cons (x_v 0) (xa_cons x_int xa_nil))))
 (xs_one (xs_ret (x_and (x_notN (x_v 1) x_non) (x_one (x_le (x_v 1) (x_gint (by rfl) M.most_deeds.choose_spec)))))))
/-! ### check_book -/
def N_check_book : List Str := ["thing"]
theorem sc_check_book : FnScope N_check_book ["thing"] (defScope (topS 33)) := ⟨rfl, rfl, rfl, by decide +kernel, rfl, by decide +kernel, by decide +kernel⟩
def t_check_book (T_is_book : List D3 → (R3 → Prop) → Prop) : TS3 :=
 (ifS3 (not3 (tst3 (callF T_is_book (cons3 (v3 0) nil3)))) never3 next3)
theorem b_check_book {P : Program} {w : World} {K : PySem.W.Frag} {mg : Str → Option Value} {base : Heap} {C f : Addr} {k : Nat} (M : Mods mg) {T_is_book : List D3 → (R3 → Prop) → Prop} {k_is_book : Nat} {f_is_book : Addr} {d_is_book : FuncData} {p_is_book : List Str} (U_is_book : Callee K mg "is_book" f_is_book d_is_book p_is_book) (G_is_book : FnOk P w K mg base CX0 k_is_book f_is_book d_is_book p_is_book (sp3 ⟨K, C, P, w⟩ T_is_book)) (h_is_book : k_is_book ≤ k) (cdv : Value) (A : Around) (outer : List Env) (s : Shared) (H : Hp) (E : XK)
  (hr : Room k (A.deeper (PyProof.Rows.envOfC "check_book" (defScope (topS 33)) s.heap.objs.size f cdv))) : XSs (cxOf CX0 P w K mg base N_check_book "check_book" (defScope (topS 33)) f cdv A outer s H E).nox C (defBody (topS 33)) (t_check_book T_is_book) :=
 (xs_one (xs_if (xt_not (xt_val (x_call G_is_book (hr.mono h_is_book) (by rfl) U_is_book.m U_is_book.kp U_is_book.b (xa_cons (x_v 0) xa_nil)))) (xs_one xs_never) xs_nil))
/-! ### next_side -/
def N_next_side : List Str := ["book", "todo", "left", "deed"]
theorem sc_next_side : FnScope N_next_side ["book", "todo", "left"] (defScope (topS 34)) := ⟨rfl, rfl, rfl, by decide +kernel, rfl, by decide +kernel, by decide +kernel⟩
def t_next_side : TS3 :=
 (seq3 (asg3 (if3 (tst3 (op2 gt3 (call1 len3 (v3 1)) (c3 (.int 0)))) (v3 1) (v3 0)) 1)
 (seq3 (while3 (tst3 (op2 (eq3 false) (op2 ix3 (op2 ix3 (v3 1) (c3 (.int 0))) (c3 (.int 0))) (c3 (.str "if")))) (seq3 (asg3 (op2 ix3 (v3 1) (c3 (.int 0))) 3)
 (asg3 (op2 add3 (op2 ix3 (v3 3) (if3 (tst3 (op2 (in3 false) (op2 ix3 (v3 3) (c3 (.int 1))) (v3 2))) (c3 (.int 3)) (c3 (.int 2)))) (sl3 (some 1) none (v3 1))) 1)))
 (ret3 (tup3 (cons3 (op2 ix3 (op2 ix3 (v3 1) (c3 (.int 0))) (c3 (.int 0))) (cons3 (sl3 (some 1) none (v3 1)) nil3))))))
theorem b_next_side {P : Program} {w : World} {K : PySem.W.Frag} {mg : Str → Option Value} {base : Heap} {C f : Addr} {k : Nat} (M : Mods mg) (cdv : Value) (A : Around) (outer : List Env) (s : Shared) (H : Hp) (E : XK)
  (hr : Room k (A.deeper (PyProof.Rows.envOfC "next_side" (defScope (topS 34)) s.heap.objs.size f cdv))) : XSs (cxOf CX0 P w K mg base N_next_side "next_side" (defScope (topS 34)) f cdv A outer s H E).nox C (defBody (topS 34)) (t_next_side) :=
 (xs_cons (xs_set 1 sc_next_side.nd (x_if (xt_gt (x_callB call_len_seq cl_len (by rfl) M.len (by decide +kernel) (x_v 1)) x_int) (x_v 1) (x_v 0)))
 (xs_cons (xs_while PassesOwn.never (xt_eq (hu64 hr) (x_ix (x_ix (x_v 1) x_int) x_int) x_str) (xs_cons (xs_set 3 sc_next_side.nd (x_ix (x_v 1) x_int))
 (xs_one (xs_set 1 sc_next_side.nd (x_add (x_ix (x_v 3) (x_if (xt_in (hu65 hr) (x_ix (x_v 3) x_int) (x_v 2)) x_int x_int)) (x_sl (x_v 1) (po_some pe_int) cst_int po_none cst_none))))))
 (xs_one (xs_ret (x_tup (xa_cons (x_ix (x_ix (x_v 1) x_int) x_int) (xa_cons (x_sl (x_v 1) (po_some pe_int) cst_int po_none cst_none) xa_nil)))))))
/-! ### side_of -/
def N_side_of : List Str := ["book", "todo", "left", "many"]
theorem sc_side_of : FnScope N_side_of ["book", "todo", "left", "many"] (defScope (topS 35)) := ⟨rfl, rfl, rfl, by decide +kernel, rfl, by decide +kernel, by decide +kernel⟩
def t_side_of (T_next_side : List D3 → (R3 → Prop) → Prop) : TS3 :=
 (ret3 (callF T_next_side (cons3 (v3 0) (cons3 (v3 1) (cons3 (op2 add3 (v3 2) (tupRg3 (v3 3) (op2 add3 (c3 (.int 7)) (c3 (.int 1))))) nil3)))))
theorem b_side_of {P : Program} {w : World} {K : PySem.W.Frag} {mg : Str → Option Value} {base : Heap} {C f : Addr} {k : Nat} (M : Mods mg) {T_next_side : List D3 → (R3 → Prop) → Prop} {k_next_side : Nat} {f_next_side : Addr} {d_next_side : FuncData} {p_next_side : List Str} (U_next_side : Callee K mg "next_side" f_next_side d_next_side p_next_side) (G_next_side : FnOk P w K mg base CX0 k_next_side f_next_side d_next_side p_next_side (sp3 ⟨K, C, P, w⟩ T_next_side)) (h_next_side : k_next_side ≤ k) (cdv : Value) (A : Around) (outer : List Env) (s : Shared) (H : Hp) (E : XK)
  (hr : Room k (A.deeper (PyProof.Rows.envOfC "side_of" (defScope (topS 35)) s.heap.objs.size f cdv))) : XSs (cxOf CX0 P w K mg base N_side_of "side_of" (defScope (topS 35)) f cdv A outer s H E).nox C (defBody (topS 35)) (t_side_of T_next_side) :=
 (xs_one (xs_ret (x_call G_next_side (hr.mono h_next_side) (by rfl) U_next_side.m U_next_side.kp U_next_side.b (xa_cons (x_v 0) (xa_cons (x_v 1) (xa_cons (x_add (x_v 2) (x_tupRg rfl (by rfl) M.tup (by rfl) M.rng (x_v 3) (x_add (x_gint (by rfl) M.most_name.choose_spec) x_int))) xa_nil))))))
/-! ### choices -/
def N_choices : List Str := ["web", "side", "left", "near", "name", "other"]
theorem sc_choices : FnScope N_choices ["web", "side", "left"] (defScope (topS 36)) := ⟨rfl, rfl, rfl, by decide +kernel, rfl, by decide +kernel, by decide +kernel⟩
def t_choices : TS3 :=
 (seq3 (asg3 (if3 (tst3 (op2 (eq3 false) (v3 1) (c3 (.str "front")))) (fld3 (fun _ _ al _ => .lst al) (v3 0)) (fld3 (fun _ _ _ ll => .lst ll) (v3 0))) 3)
 (ret3 (lcT3 (v3 2) (gn3 4) (not3 (tst3 (call1 (boolL fun bs => bs.any id) (lcT3 (op2 ix3 (v3 3) (v3 4)) (gn3 5) yes3 (op2 (in3 false) (v3 5) (v3 2)) [5])))) (v3 4) [4])))
theorem b_choices {P : Program} {w : World} {K : PySem.W.Frag} {mg : Str → Option Value} {base : Heap} {C f : Addr} {k : Nat} (M : Mods mg) (WC : WebC K C) (cdv : Value) (A : Around) (outer : List Env) (s : Shared) (H : Hp) (E : XK)
  (hr : Room k (A.deeper (PyProof.Rows.envOfC "choices" (defScope (topS 36)) s.heap.objs.size f cdv))) : XSs (cxOf CX0 P w K mg base N_choices "choices" (defScope (topS 36)) f cdv A outer s H E).nox C (defBody (topS 36)) (t_choices) :=
 (xs_cons (xs_set 3 sc_choices.nd (x_if (xt_eq (hu64 hr) (x_v 1) x_str) (x_ahead WC (x_v 0)) (x_later WC (x_v 0))))
 (xs_one (xs_ret (x_lcT sc_choices.nd (x_v 2) (blkOk_by (own := [("name", 4)]) (by kernel_rfl)) gl_name (by decide) ⟨fun _ _ _ _ _ => (pg_name (i := 4) sc_choices.nd rfl (by first | exact .inl rfl | exact .inr rfl)), fun _ _ _ _ _ => (xts_one (xt_not (xt_val (x_callB (cr_any rfl) cl_any (by rfl) M.any (by decide +kernel) (x_lcT sc_choices.nd (x_ix (x_v 3) (x_v 4)) (blkOk_by (own := [("other", 5)]) (by kernel_rfl)) gl_name (by decide) ⟨fun _ _ _ _ _ => (pg_name (i := 5) sc_choices.nd rfl (by first | exact .inl rfl | exact .inr rfl)), fun _ _ _ _ _ => xts_nil, fun _ _ _ _ _ => (x_in (hu65 hr) (x_v 5) (x_v 2))⟩))))), fun _ _ _ _ _ => (x_v 4)⟩))))
/-! ### chance_by -/
def N_chance_by : List Str := ["web", "book", "order", "bottom", "left", "todo", "side"]
theorem sc_chance_by : FnScope N_chance_by ["web", "book", "order"] (defScope (topS 37)) := ⟨rfl, rfl, rfl, by decide +kernel, rfl, by decide +kernel, by decide +kernel⟩
def t_chance_by (T_side_of : List D3 → (R3 → Prop) → Prop) (T_choices : List D3 → (R3 → Prop) → Prop) : TS3 :=
 (seq3 (asg3 (c3 (.int 1)) 3)
 (seq3 (asg3 (v3 2) 4)
 (seq3 (asg3 (v3 1) 5)
 (seq3 (while3 (tst3 (op2 gt3 (call1 len3 (v3 4)) (c3 (.int 0)))) (seq3 (asgG3 (callF T_side_of (cons3 (v3 1) (cons3 (v3 5) (cons3 (v3 4) (cons3 (fld3 (fun n _ _ _ => .int n) (v3 0)) nil3))))) (gp3 6 5))
 (seq3 (has3 3 (aug3 3 (int2 CMul fun i j => .int (i * j)) (call1 len3 (callF T_choices (cons3 (v3 0) (cons3 (v3 6) (cons3 (v3 4) nil3)))))))
 (asg3 (if3 (tst3 (op2 (eq3 false) (v3 6) (c3 (.str "front")))) (sl3 (some 1) none (v3 4)) (sl3 none (some (-1)) (v3 4))) 4))))
 (ret3 (tup3 (cons3 (c3 (.int 1)) (cons3 (v3 3) nil3))))))))
theorem b_chance_by {P : Program} {w : World} {K : PySem.W.Frag} {mg : Str → Option Value} {base : Heap} {C f : Addr} {k : Nat} (M : Mods mg) {T_side_of : List D3 → (R3 → Prop) → Prop} {k_side_of : Nat} {f_side_of : Addr} {d_side_of : FuncData} {p_side_of : List Str} (U_side_of : Callee K mg "side_of" f_side_of d_side_of p_side_of) (G_side_of : FnOk P w K mg base CX0 k_side_of f_side_of d_side_of p_side_of (sp3 ⟨K, C, P, w⟩ T_side_of)) (h_side_of : k_side_of ≤ k) {T_choices : List D3 → (R3 → Prop) → Prop} {k_choices : Nat} {f_choices : Addr} {d_choices : FuncData} {p_choices : List Str} (U_choices : Callee K mg "choices" f_choices d_choices p_choices) (G_choices : FnOk P w K mg base CX0 k_choices f_choices d_choices p_choices (sp3 ⟨K, C, P, w⟩ T_choices)) (h_choices : k_choices ≤ k) (WC : WebC K C) (cdv : Value) (A : Around) (outer : List Env) (s : Shared) (H : Hp) (E : XK)
  (hr : Room k (A.deeper (PyProof.Rows.envOfC "chance_by" (defScope (topS 37)) s.heap.objs.size f cdv))) : XSs (cxOf CX0 P w K mg base N_chance_by "chance_by" (defScope (topS 37)) f cdv A outer s H E).nox C (defBody (topS 37)) (t_chance_by T_side_of T_choices) :=
 (xs_cons (xs_set 3 sc_chance_by.nd x_int)
 (xs_cons (xs_set 4 sc_chance_by.nd (x_v 2))
 (xs_cons (xs_set 5 sc_chance_by.nd (x_v 1))
 (xs_cons (xs_while PassesOwn.never (xt_gt (x_callB call_len_seq cl_len (by rfl) M.len (by decide +kernel) (x_v 4)) x_int) (xs_cons (xs_asgG (x_call G_side_of (hr.mono h_side_of) (by rfl) U_side_of.m U_side_of.kp U_side_of.b (xa_cons (x_v 1) (xa_cons (x_v 5) (xa_cons (x_v 4) (xa_cons (x_many WC (x_v 0)) xa_nil))))) (pg_pair 6 5 sc_chance_by.nd) gl_pair)
 (xs_cons (xs_augMul 3 sc_chance_by.nd (x_callB call_len_seq cl_len (by rfl) M.len (by decide +kernel) (x_call G_choices (hr.mono h_choices) (by rfl) U_choices.m U_choices.kp U_choices.b (xa_cons (x_v 0) (xa_cons (x_v 6) (xa_cons (x_v 4) xa_nil))))))
 (xs_one (xs_set 4 sc_chance_by.nd (x_if (xt_eq (hu64 hr) (x_v 6) x_str) (x_sl (x_v 4) (po_some pe_int) cst_int po_none cst_none) (x_sl (x_v 4) po_none cst_none (po_some (pe_un un_neg pe_int)) cst_neg)))))))
 (xs_one (xs_ret (x_tup (xa_cons x_int (xa_cons (x_v 3) xa_nil)))))))))
/-! ### books_part -/
def N_books_part : List Str := ["one", "other", "many", "web", "order"]
theorem sc_books_part : FnScope N_books_part ["one", "other", "many"] (defScope (topS 38)) := ⟨rfl, rfl, rfl, by decide +kernel, rfl, by decide +kernel, by decide +kernel⟩
def t_books_part (T_check_book : List D3 → (R3 → Prop) → Prop) (T_check_number : List D3 → (R3 → Prop) → Prop) (T_chance_by : List D3 → (R3 → Prop) → Prop) (T_all_orders : List D3 → (R3 → Prop) → Prop) (T_webs_up_to : List D3 → (R3 → Prop) → Prop) : TS3 :=
 (seq3 (drop3 (callF T_check_book (cons3 (v3 0) nil3)))
 (seq3 (drop3 (callF T_check_book (cons3 (v3 1) nil3)))
 (seq3 (drop3 (callF T_check_number (cons3 (v3 2) (cons3 (c3 (.int 1)) (cons3 (c3 (.int 4)) nil3)))))
 (seq3 (forL3 (callF T_webs_up_to (cons3 (v3 2) nil3)) (gn3 3) (forL3 (callF T_all_orders (cons3 (v3 3) nil3)) (gn3 4) (ifS3 (tst3 (op2 (eq3 true) (callF T_chance_by (cons3 (v3 3) (cons3 (v3 0) (cons3 (v3 4) nil3)))) (callF T_chance_by (cons3 (v3 3) (cons3 (v3 1) (cons3 (v3 4) nil3)))))) (ret3 (tup3 (cons3 (v3 3) (cons3 (v3 4) nil3)))) next3)))
 (ret3 (c3 .non))))))
theorem b_books_part {P : Program} {w : World} {K : PySem.W.Frag} {mg : Str → Option Value} {base : Heap} {C f : Addr} {k : Nat} (M : Mods mg) {T_check_book : List D3 → (R3 → Prop) → Prop} {k_check_book : Nat} {f_check_book : Addr} {d_check_book : FuncData} {p_check_book : List Str} (U_check_book : Callee K mg "check_book" f_check_book d_check_book p_check_book) (G_check_book : FnOk P w K mg base CX0 k_check_book f_check_book d_check_book p_check_book (sp3 ⟨K, C, P, w⟩ T_check_book)) (h_check_book : k_check_book ≤ k) {T_check_number : List D3 → (R3 → Prop) → Prop} {k_check_number : Nat} {f_check_number : Addr} {d_check_number : FuncData} {p_check_number : List Str} (U_check_number : Callee K mg "check_number" f_check_number d_check_number p_check_number) (G_check_number : FnOk P w K mg base CX0 k_check_number f_check_number d_check_number p_check_number (sp3 ⟨K, C, P, w⟩ T_check_number)) (h_check_number : k_check_number ≤ k) {T_chance_by : List D3 → (R3 → Prop) → Prop} {k_chance_by : Nat} {f_chance_by : Addr} {d_chance_by : FuncData} {p_chance_by : List Str} (U_chance_by : Callee K mg "chance_by" f_chance_by d_chance_by p_chance_by) (G_chance_by : FnOk P w K mg base CX0 k_chance_by f_chance_by d_chance_by p_chance_by (sp3 ⟨K, C, P, w⟩ T_chance_by)) (h_chance_by : k_chance_by ≤ k) {T_all_orders : List D3 → (R3 → Prop) → Prop} {k_all_orders : Nat} {f_all_orders : Addr} {d_all_orders : FuncData} {p_all_orders : List Str} (U_all_orders : Callee K mg "all_orders" f_all_orders d_all_orders p_all_orders) (G_all_orders : FnOk P w K mg base CX0 k_all_orders f_all_orders d_all_orders p_all_orders (sp3 ⟨K, C, P, w⟩ T_all_orders)) (h_all_orders : k_all_orders ≤ k) {T_webs_up_to : List D3 → (R3 → Prop) → Prop} {k_webs_up_to : Nat} {f_webs_up_to : Addr} {d_webs_up_to : FuncData} {p_webs_up_to : List Str} (U_webs_up_to : Callee K mg "webs_up_to" f_webs_up_to d_webs_up_to p_webs_up_to) (G_webs_up_to : FnOk P w K mg base CX0 k_webs_up_to f_webs_up_to d_webs_up_to p_webs_up_to (sp3 ⟨K, C, P, w⟩ T_webs_up_to)) (h_webs_up_to : k_webs_up_to ≤ k) (cdv : Value) (A : Around) (outer : List Env) (s : Shared) (H : Hp) (E : XK)
  (hr : Room k (A.deeper (PyProof.Rows.envOfC "books_part" (defScope (topS 38)) s.heap.objs.size f cdv))) : XSs (cxOf CX0 P w K mg base N_books_part "books_part" (defScope (topS 38)) f cdv A outer s H E).nox C (defBody (topS 38)) (t_books_part T_check_book T_check_number T_chance_by T_all_orders T_webs_up_to) :=
 (xs_cons (xs_expr (x_call G_check_book (hr.mono h_check_book) (by rfl) U_check_book.m U_check_book.kp U_check_book.b (xa_cons (x_v 0) xa_nil)))
 (xs_cons (xs_expr (x_call G_check_book (hr.mono h_check_book) (by rfl) U_check_book.m U_check_book.kp U_check_book.b (xa_cons (x_v 1) xa_nil)))
 (xs_cons (xs_expr (x_call G_check_number (hr.mono h_check_number) (by rfl) U_check_number.m U_check_number.kp U_check_number.b (xa_cons (x_v 2) (xa_cons x_int (xa_cons (x_gint (by rfl) M.most_parted.choose_spec) xa_nil)))))
 (xs_cons (xs_forL PassesOwn.never rfl (x_call G_webs_up_to (hr.mono h_webs_up_to) (by rfl) U_webs_up_to.m U_webs_up_to.kp U_webs_up_to.b (xa_cons (x_v 2) xa_nil)) (pg_name (i := 3) sc_books_part.nd rfl (by first | exact .inl rfl | exact .inr rfl)) gl_name (xs_one (xs_forL PassesOwn.never rfl (x_call G_all_orders (hr.mono h_all_orders) (by rfl) U_all_orders.m U_all_orders.kp U_all_orders.b (xa_cons (x_v 3) xa_nil)) (pg_name (i := 4) sc_books_part.nd rfl (by first | exact .inl rfl | exact .inr rfl)) gl_name (xs_one (xs_if (xt_ne (hu64 hr) (x_call G_chance_by (hr.mono h_chance_by) (by rfl) U_chance_by.m U_chance_by.kp U_chance_by.b (xa_cons (x_v 3) (xa_cons (x_v 0) (xa_cons (x_v 4) xa_nil)))) (x_call G_chance_by (hr.mono h_chance_by) (by rfl) U_chance_by.m U_chance_by.kp U_chance_by.b (xa_cons (x_v 3) (xa_cons (x_v 1) (xa_cons (x_v 4) xa_nil))))) (xs_one (xs_ret (x_tup (xa_cons (x_v 3) (xa_cons (x_v 4) xa_nil))))) xs_nil)))))
 (xs_one (xs_ret x_non))))))
/-! ### _law_tape -/
def N__law_tape : List Str := ["_law_script"]
theorem sc__law_tape : FnScope N__law_tape ["_law_script"] (defScope (topS 40)) := ⟨rfl, rfl, rfl, by decide +kernel, rfl, by decide +kernel, by decide +kernel⟩
def t__law_tape : TS3 :=
 (ret3 (mkTape (call1 list3 (v3 0)) 0 0 1 0))
theorem b__law_tape {P : Program} {w : World} {K : PySem.W.Frag} {mg : Str → Option Value} {base : Heap} {C f : Addr} {k : Nat} (M : Mods mg) (cdv : Value) (A : Around) (outer : List Env) (s : Shared) (H : Hp) (E : XK)
  (hr : Room k (A.deeper (PyProof.Rows.envOfC "_law_tape" (defScope (topS 40)) s.heap.objs.size f cdv))) : XSs (cxOf CX0 P w K mg base N__law_tape "_law_tape" (defScope (topS 40)) f cdv A outer s H E).nox C (defBody (topS 40)) (t__law_tape) :=
 (xs_one (xs_ret (x_mkTape (x_callTy (call_list3 rfl) cl_list (by rfl) M.lst (by decide +kernel) (x_v 0)))))
/-! ### _law_pick -/
def N__law_pick : List Str := ["_law_tape_here", "_law_many", "_law_digit", "_law_cell", "_law_mixed"]
theorem sc__law_pick : FnScope N__law_pick ["_law_tape_here", "_law_many"] (defScope (topS 41)) := ⟨rfl, rfl, rfl, by decide +kernel, rfl, by decide +kernel, by decide +kernel⟩
def t__law_pick : TS3 :=
 (seq3 (ifS3 (tst3 (op2 gt3 (tpGet 0 2) (c3 (.int 1)))) (seq3 (asg3 (op2 (int2 (fun _ j => 0 < j) fun i j => .int (i % j)) (call1 int3 (tpGet 0 2)) (v3 1)) 2)
 (seq3 (tpPut 0 2 (op2 (int2 CDivW fun i j => .int (i / j)) (tpGet 0 2) (v3 1)))
 (ret3 (v3 2)))) next3)
 (seq3 (tpPut 0 4 (op2 add3 (tpGet 0 4) (c3 (.int 1))))
 (seq3 (asg3 (c3 (.int 0)) 3)
 (seq3 (ifS3 (tst3 (op2 lt3 (tpGet 0 1) (call1 len3 (tpGet 0 0)))) (seq3 (asg3 (op2 ix3 (tpGet 0 0) (tpGet 0 1)) 3)
 (tpPut 0 1 (op2 add3 (tpGet 0 1) (c3 (.int 1))))) next3)
 (seq3 (ifS3 (tst3 (op2 ge3 (v3 3) (op2 (int2 CPow fun i j => .int (i ^ j.toNat)) (c3 (.int 10)) (c3 (.int 18))))) (seq3 (tpPut 0 2 (op2 (int2 CDivW fun i j => .int (i / j)) (v3 3) (v3 1)))
 (ret3 (op2 (int2 (fun _ j => 0 < j) fun i j => .int (i % j)) (call1 int3 (v3 3)) (v3 1)))) next3)
 (seq3 (asg3 (op2 (int2 (fun _ j => 0 < j) fun i j => .int (i % j)) (call1 int3 (op2 add3 (op2 add3 (op2 (int2 CMul fun i j => .int (i * j)) (tpGet 0 3) (c3 (.int 48271))) (op2 (int2 (fun _ j => 0 < j) fun i j => .int (i % j)) (call1 int3 (v3 3)) (c3 (.int 2147483629)))) (op2 (int2 CMul fun i j => .int (i * j)) (tpGet 0 4) (c3 (.int 69621))))) (c3 (.int 2147483647))) 4)
 (seq3 (asg3 (op2 (int2 (fun _ j => 0 < j) fun i j => .int (i % j)) (call1 int3 (op2 (int2 CMul fun i j => .int (i * j)) (v3 4) (op2 add3 (op2 (int2 CDivW fun i j => .int (i / j)) (v3 4) (c3 (.int 1009))) (c3 (.int 40692))))) (c3 (.int 2147483399))) 4)
 (seq3 (tpPut 0 3 (v3 4))
 (ret3 (op2 (int2 (fun _ j => 0 < j) fun i j => .int (i % j)) (call1 int3 (op2 (int2 CDivW fun i j => .int (i / j)) (v3 4) (c3 (.int 16)))) (v3 1)))))))))))
theorem b__law_pick {P : Program} {w : World} {K : PySem.W.Frag} {mg : Str → Option Value} {base : Heap} {C f : Addr} {k : Nat} (M : Mods mg) (cdv : Value) (A : Around) (outer : List Env) (s : Shared) (H : Hp) (E : XK)
  (hr : Room k (A.deeper (PyProof.Rows.envOfC "_law_pick" (defScope (topS 41)) s.heap.objs.size f cdv))) : XSs (cxOf CX0 P w K mg base N__law_pick "_law_pick" (defScope (topS 41)) f cdv A outer s H E).nox C (defBody (topS 41)) (t__law_pick) :=
 (xs_cons (xs_if (xt_gt (x_tpGet 2 (pv 0)) x_int) (xs_cons (xs_set 2 sc__law_pick.nd (x_mod (x_callTy call_int1 cl_int (by rfl) M.int (by decide +kernel) (x_tpGet 2 (pv 0))) (x_v 1)))
 (xs_cons (xs_tpPut 2 (pv 0) (x_fdiv (x_tpGet 2 (pv 0)) (x_v 1)))
 (xs_one (xs_ret (x_v 2))))) xs_nil)
 (xs_cons (xs_tpPut 4 (pv 0) (x_add (x_tpGet 4 (pv 0)) x_int))
 (xs_cons (xs_set 3 sc__law_pick.nd x_int)
 (xs_cons (xs_if (xt_lt (x_tpGet 1 (pv 0)) (x_callB call_len_seq cl_len (by rfl) M.len (by decide +kernel) (x_tpGet 0 (pv 0)))) (xs_cons (xs_set 3 sc__law_pick.nd (x_ix (x_tpGet 0 (pv 0)) (x_tpGet 1 (pv 0))))
 (xs_one (xs_tpPut 1 (pv 0) (x_add (x_tpGet 1 (pv 0)) x_int)))) xs_nil)
 (xs_cons (xs_if (xt_ge (x_v 3) (x_pow x_int x_int)) (xs_cons (xs_tpPut 2 (pv 0) (x_fdiv (x_v 3) (x_v 1)))
 (xs_one (xs_ret (x_mod (x_callTy call_int1 cl_int (by rfl) M.int (by decide +kernel) (x_v 3)) (x_v 1))))) xs_nil)
 (xs_cons (xs_set 4 sc__law_pick.nd (x_mod (x_callTy call_int1 cl_int (by rfl) M.int (by decide +kernel) (x_add (x_add (x_mul (x_tpGet 3 (pv 0)) x_int) (x_mod (x_callTy call_int1 cl_int (by rfl) M.int (by decide +kernel) (x_v 3)) x_int)) (x_mul (x_tpGet 4 (pv 0)) x_int))) x_int))
 (xs_cons (xs_set 4 sc__law_pick.nd (x_mod (x_callTy call_int1 cl_int (by rfl) M.int (by decide +kernel) (x_mul (x_v 4) (x_add (x_fdiv (x_v 4) x_int) x_int))) x_int))
 (xs_cons (xs_tpPut 3 (pv 0) (x_v 4))
 (xs_one (xs_ret (x_mod (x_callTy call_int1 cl_int (by rfl) M.int (by decide +kernel) (x_fdiv (x_v 4) x_int)) (x_v 1))))))))))))
/-! ### _law_free -/
def N__law_free : List Str := ["_law_befores", "_law_many", "_law_row", "_law_found", "_law_name", "_law_one", "_law_other"]
theorem sc__law_free : FnScope N__law_free ["_law_befores", "_law_many", "_law_row"] (defScope (topS 42)) := ⟨rfl, rfl, rfl, by decide +kernel, rfl, by decide +kernel, by decide +kernel⟩
def t__law_free : TS3 :=
 (seq3 (asg3 (lst3 nil3) 3)
 (seq3 (forR1 (v3 1) (gn3 4) (ifS3 (and3 (tst3 (op2 (in3 true) (v3 4) (v3 2))) (tst3 (op2 (eq3 false) (call1 len3 (lcT3 (v3 0) (gp3 5 6) (and3 (tst3 (op2 (eq3 false) (v3 6) (v3 4))) (tst3 (op2 (in3 true) (v3 5) (v3 2)))) (v3 5) [5, 6])) (c3 (.int 0))))) (app3 3 (v3 4)) next3))
 (ret3 (mv3 3))))
theorem b__law_free {P : Program} {w : World} {K : PySem.W.Frag} {mg : Str → Option Value} {base : Heap} {C f : Addr} {k : Nat} (M : Mods mg) (cdv : Value) (A : Around) (outer : List Env) (s : Shared) (H : Hp) (E : XK)
  (hr : Room k (A.deeper (PyProof.Rows.envOfC "_law_free" (defScope (topS 42)) s.heap.objs.size f cdv))) : XSs (cxOf CX0 P w K mg base N__law_free "_law_free" (defScope (topS 42)) f cdv A outer s H E).nox C (defBody (topS 42)) (t__law_free) :=
 (xs_cons (xs_set 3 sc__law_free.nd (x_lst xa_nil))
 (xs_cons (xs_forR1 PassesOwn.never rfl (by rfl) M.rng (x_v 1) (pg_name (i := 4) sc__law_free.nd rfl (by first | exact .inl rfl | exact .inr rfl)) gl_name (xs_one (xs_if (XW.pt (xw_and (xt_notIn (hu65 hr) (x_v 4) (x_v 2)) (xw_and1 (xt_eq (hu64 hr) (x_callB call_len_seq cl_len (by rfl) M.len (by decide +kernel) (x_lcT sc__law_free.nd (x_v 0) (blkOk_by (own := [("_law_one", 5), ("_law_other", 6)]) (by kernel_rfl)) gl_pair (by decide) ⟨fun _ _ _ _ _ => (pg_pair 5 6 sc__law_free.nd), fun _ _ _ _ _ => (xts_one (XW.pt (xw_and (xt_eq (hu64 hr) (x_v 6) (x_v 4)) (xw_and1 (xt_notIn (hu65 hr) (x_v 5) (x_v 2)))))), fun _ _ _ _ _ => (x_v 5)⟩)) x_int)))) (xs_one (xs_app (pv 3) (x_v 4))) xs_nil)))
 (xs_one (xs_ret (x_mv 3)))))
/-! ### _law_orders -/
def N__law_orders : List Str := ["_law_befores", "_law_many", "_law_found", "_law_turn", "_law_longer", "_law_row", "_law_name"]
theorem sc__law_orders : FnScope N__law_orders ["_law_befores", "_law_many"] (defScope (topS 43)) := ⟨rfl, rfl, rfl, by decide +kernel, rfl, by decide +kernel, by decide +kernel⟩
def t__law_orders (T__law_free : List D3 → (R3 → Prop) → Prop) : TS3 :=
 (seq3 (asg3 (lst3 (cons3 (tup3 nil3) nil3)) 2)
 (seq3 (forR1 (v3 1) (gn3 3) (seq3 (asg3 (lst3 nil3) 4)
 (seq3 (forL3 (fzv3 2) (gn3 5) (asg3 (op2 add3 (mv3 4) (lcL3 (callF T__law_free (cons3 (v3 0) (cons3 (v3 1) (cons3 (v3 5) nil3)))) (gn3 6) yes3 (op2 add3 (v3 5) (tup3 (cons3 (v3 6) nil3))) [6])) 4))
 (asg3 (mv3 4) 2))))
 (ret3 (mv3 2))))
theorem b__law_orders {P : Program} {w : World} {K : PySem.W.Frag} {mg : Str → Option Value} {base : Heap} {C f : Addr} {k : Nat} (M : Mods mg) {T__law_free : List D3 → (R3 → Prop) → Prop} {k__law_free : Nat} {f__law_free : Addr} {d__law_free : FuncData} {p__law_free : List Str} (U__law_free : Callee K mg "_law_free" f__law_free d__law_free p__law_free) (G__law_free : FnOk P w K mg base CX0 k__law_free f__law_free d__law_free p__law_free (sp3 ⟨K, C, P, w⟩ T__law_free)) (h__law_free : k__law_free ≤ k) (cdv : Value) (A : Around) (outer : List Env) (s : Shared) (H : Hp) (E : XK)
  (hr : Room k (A.deeper (PyProof.Rows.envOfC "_law_orders" (defScope (topS 43)) s.heap.objs.size f cdv))) : XSs (cxOf CX0 P w K mg base N__law_orders "_law_orders" (defScope (topS 43)) f cdv A outer s H E).nox C (defBody (topS 43)) (t__law_orders T__law_free) :=
 (xs_cons (xs_set 2 sc__law_orders.nd (x_lst (xa_cons (x_tup xa_nil) xa_nil)))
 (xs_cons (xs_forR1 PassesOwn.never rfl (by rfl) M.rng (x_v 1) (pg_name (i := 3) sc__law_orders.nd rfl (by first | exact .inl rfl | exact .inr rfl)) gl_name (xs_cons (xs_set 4 sc__law_orders.nd (x_lst xa_nil))
 (xs_cons (xs_forL PassesOwn.never rfl (x_fzv 2) (pg_name (i := 5) sc__law_orders.nd rfl (by first | exact .inl rfl | exact .inr rfl)) gl_name (xs_one (xs_set 4 sc__law_orders.nd (x_add (x_mv 4) (x_lcL sc__law_orders.nd (x_call G__law_free (hr.mono h__law_free) (by rfl) U__law_free.m U__law_free.kp U__law_free.b (xa_cons (x_v 0) (xa_cons (x_v 1) (xa_cons (x_v 5) xa_nil)))) (blkOk_by (own := [("_law_name", 6)]) (by kernel_rfl)) gl_name (by decide) ⟨fun _ _ _ _ _ => (pg_name (i := 6) sc__law_orders.nd rfl (by first | exact .inl rfl | exact .inr rfl)), fun _ _ _ _ _ => xts_nil, fun _ _ _ _ _ => (x_add (x_v 5) (x_tup (xa_cons (x_v 6) xa_nil)))⟩)))))
 (xs_one (xs_set 2 sc__law_orders.nd (x_mv 4))))))
 (xs_one (xs_ret (x_mv 2)))))
/-! ### _law_every -/
def N__law_every : List Str := ["_law_many", "_law_found", "_law_name", "_law_sides", "_law_other", "_law_later", "_law_befores", "_law_row"]
theorem sc__law_every : FnScope N__law_every ["_law_many"] (defScope (topS 44)) := ⟨rfl, rfl, rfl, by decide +kernel, rfl, by decide +kernel, by decide +kernel⟩
def t__law_every (T__law_can_stand : List D3 → (R3 → Prop) → Prop) (T__law_put_in : List D3 → (R3 → Prop) → Prop) : TS3 :=
 (seq3 (asg3 (lst3 (cons3 (tup3 nil3) nil3)) 1)
 (seq3 (forR2 (c3 (.int 1)) (v3 0) (gn3 2) (seq3 (asg3 (lst3 (cons3 (tup3 nil3) nil3)) 3)
 (seq3 (forR1 (v3 2) (gn3 4) (asg3 (op2 add3 (op2 add3 (lcL3 (fzv3 3) (gn3 7) yes3 (op2 add3 (v3 7) (tup3 (cons3 (c3 (.int 0)) nil3))) [7]) (lcL3 (fzv3 3) (gn3 7) yes3 (op2 add3 (v3 7) (tup3 (cons3 (c3 (.int 1)) nil3))) [7])) (lcL3 (fzv3 3) (gn3 7) yes3 (op2 add3 (v3 7) (tup3 (cons3 (c3 (.int 2)) nil3))) [7])) 3))
 (seq3 (asg3 (lst3 nil3) 5)
 (seq3 (forL3 (fzv3 1) (gn3 6) (asg3 (op2 add3 (mv3 5) (lcL3 (fzv3 3) (gn3 7) (tst3 (callF T__law_can_stand (cons3 (v3 6) (cons3 (v3 2) (cons3 (v3 7) nil3))))) (callF T__law_put_in (cons3 (v3 6) (cons3 (v3 2) (cons3 (v3 7) nil3)))) [7])) 5))
 (asg3 (call1 sort3 (mv3 5)) 1))))))
 (ret3 (mv3 1))))
theorem b__law_every {P : Program} {w : World} {K : PySem.W.Frag} {mg : Str → Option Value} {base : Heap} {C f : Addr} {k : Nat} (M : Mods mg) {T__law_can_stand : List D3 → (R3 → Prop) → Prop} {k__law_can_stand : Nat} {f__law_can_stand : Addr} {d__law_can_stand : FuncData} {p__law_can_stand : List Str} (U__law_can_stand : Callee K mg "_law_can_stand" f__law_can_stand d__law_can_stand p__law_can_stand) (G__law_can_stand : FnOk P w K mg base CX0 k__law_can_stand f__law_can_stand d__law_can_stand p__law_can_stand (sp3 ⟨K, C, P, w⟩ T__law_can_stand)) (h__law_can_stand : k__law_can_stand ≤ k) {T__law_put_in : List D3 → (R3 → Prop) → Prop} {k__law_put_in : Nat} {f__law_put_in : Addr} {d__law_put_in : FuncData} {p__law_put_in : List Str} (U__law_put_in : Callee K mg "_law_put_in" f__law_put_in d__law_put_in p__law_put_in) (G__law_put_in : FnOk P w K mg base CX0 k__law_put_in f__law_put_in d__law_put_in p__law_put_in (sp3 ⟨K, C, P, w⟩ T__law_put_in)) (h__law_put_in : k__law_put_in ≤ k) (cdv : Value) (A : Around) (outer : List Env) (s : Shared) (H : Hp) (E : XK)
  (hr : Room k (A.deeper (PyProof.Rows.envOfC "_law_every" (defScope (topS 44)) s.heap.objs.size f cdv))) : XSs (cxOf CX0 P w K mg base N__law_every "_law_every" (defScope (topS 44)) f cdv A outer s H E).nox C (defBody (topS 44)) (t__law_every T__law_can_stand T__law_put_in) :=
 (xs_cons (xs_set 1 sc__law_every.nd (x_lst (xa_cons (x_tup xa_nil) xa_nil)))
 (xs_cons (xs_forR2 PassesOwn.never rfl (by rfl) M.rng x_int (x_v 0) (pg_name (i := 2) sc__law_every.nd rfl (by first | exact .inl rfl | exact .inr rfl)) gl_name (xs_cons (xs_set 3 sc__law_every.nd (x_lst (xa_cons (x_tup xa_nil) xa_nil)))
 (xs_cons (xs_forR1 PassesOwn.never rfl (by rfl) M.rng (x_v 2) (pg_name (i := 4) sc__law_every.nd rfl (by first | exact .inl rfl | exact .inr rfl)) gl_name (xs_one (xs_set 3 sc__law_every.nd (x_add (x_add (x_lcL sc__law_every.nd (x_fzv 3) (blkOk_by (own := [("_law_row", 7)]) (by kernel_rfl)) gl_name (by decide) ⟨fun _ _ _ _ _ => (pg_name (i := 7) sc__law_every.nd rfl (by first | exact .inl rfl | exact .inr rfl)), fun _ _ _ _ _ => xts_nil, fun _ _ _ _ _ => (x_add (x_v 7) (x_tup (xa_cons x_int xa_nil)))⟩) (x_lcL sc__law_every.nd (x_fzv 3) (blkOk_by (own := [("_law_row", 7)]) (by kernel_rfl)) gl_name (by decide) ⟨fun _ _ _ _ _ => (pg_name (i := 7) sc__law_every.nd rfl (by first | exact .inl rfl | exact .inr rfl)), fun _ _ _ _ _ => xts_nil, fun _ _ _ _ _ => (x_add (x_v 7) (x_tup (xa_cons x_int xa_nil)))⟩)) (x_lcL sc__law_every.nd (x_fzv 3) (blkOk_by (own := [("_law_row", 7)]) (by kernel_rfl)) gl_name (by decide) ⟨fun _ _ _ _ _ => (pg_name (i := 7) sc__law_every.nd rfl (by first | exact .inl rfl | exact .inr rfl)), fun _ _ _ _ _ => xts_nil, fun _ _ _ _ _ => (x_add (x_v 7) (x_tup (xa_cons x_int xa_nil)))⟩)))))
 (xs_cons (xs_set 5 sc__law_every.nd (x_lst xa_nil))
 (xs_cons (xs_forL PassesOwn.never rfl (x_fzv 1) (pg_name (i := 6) sc__law_every.nd rfl (by first | exact .inl rfl | exact .inr rfl)) gl_name (xs_one (xs_set 5 sc__law_every.nd (x_add (x_mv 5) (x_lcL sc__law_every.nd (x_fzv 3) (blkOk_by (own := [("_law_row", 7)]) (by kernel_rfl)) gl_name (by decide) ⟨fun _ _ _ _ _ => (pg_name (i := 7) sc__law_every.nd rfl (by first | exact .inl rfl | exact .inr rfl)), fun _ _ _ _ _ => (xts_one (xt_val (x_call G__law_can_stand (hr.mono h__law_can_stand) (by rfl) U__law_can_stand.m U__law_can_stand.kp U__law_can_stand.b (xa_cons (x_v 6) (xa_cons (x_v 2) (xa_cons (x_v 7) xa_nil)))))), fun _ _ _ _ _ => (x_call G__law_put_in (hr.mono h__law_put_in) (by rfl) U__law_put_in.m U__law_put_in.kp U__law_put_in.b (xa_cons (x_v 6) (xa_cons (x_v 2) (xa_cons (x_v 7) xa_nil))))⟩)))))
 (xs_one (xs_set 1 sc__law_every.nd (x_callB (cr_sort3 (hu64 hr)) cl_sort (by rfl) M.srt (by decide +kernel) (x_mv 5)))))))))
 (xs_one (xs_ret (x_mv 1)))))
/-! ### _law_can_stand -/
def N__law_can_stand : List Str := ["_law_befores", "_law_name", "_law_sides", "_law_one", "_law_other"]
theorem sc__law_can_stand : FnScope N__law_can_stand ["_law_befores", "_law_name", "_law_sides"] (defScope (topS 45)) := ⟨rfl, rfl, rfl, by decide +kernel, rfl, by decide +kernel, by decide +kernel⟩
def t__law_can_stand : TS3 :=
 (seq3 (forT3 (v3 0) (gp3 3 4) (ifS3 (or3 (and3 (tst3 (op2 (eq3 false) (op2 ix3 (v3 2) (v3 4)) (c3 (.int 0)))) (tst3 (op2 (eq3 true) (op2 ix3 (v3 2) (v3 3)) (c3 (.int 0))))) (and3 (tst3 (op2 (eq3 false) (op2 ix3 (v3 2) (v3 3)) (c3 (.int 1)))) (tst3 (op2 (eq3 true) (op2 ix3 (v3 2) (v3 4)) (c3 (.int 1)))))) (ret3 (c3 (.bl false))) next3))
 (seq3 (forR1 (v3 1) (gn3 3) (forR1 (v3 1) (gn3 4) (ifS3 (and3 (tst3 (op2 (eq3 false) (op2 ix3 (v3 2) (v3 3)) (c3 (.int 0)))) (and3 (tst3 (op2 (eq3 false) (op2 ix3 (v3 2) (v3 4)) (c3 (.int 1)))) (tst3 (op2 (in3 true) (tup3 (cons3 (v3 3) (cons3 (v3 4) nil3))) (v3 0))))) (ret3 (c3 (.bl false))) next3)))
 (ret3 (c3 (.bl true)))))
theorem b__law_can_stand {P : Program} {w : World} {K : PySem.W.Frag} {mg : Str → Option Value} {base : Heap} {C f : Addr} {k : Nat} (M : Mods mg) (cdv : Value) (A : Around) (outer : List Env) (s : Shared) (H : Hp) (E : XK)
  (hr : Room k (A.deeper (PyProof.Rows.envOfC "_law_can_stand" (defScope (topS 45)) s.heap.objs.size f cdv))) : XSs (cxOf CX0 P w K mg base N__law_can_stand "_law_can_stand" (defScope (topS 45)) f cdv A outer s H E).nox C (defBody (topS 45)) (t__law_can_stand) :=
 (xs_cons (xs_forT PassesOwn.never rfl (x_v 0) (pg_pair 3 4 sc__law_can_stand.nd) gl_pair (xs_one (xs_if (XW.pt (xw_or (XW.pt (xw_and (xt_eq (hu64 hr) (x_ix (x_v 2) (x_v 4)) x_int) (xw_and1 (xt_ne (hu64 hr) (x_ix (x_v 2) (x_v 3)) x_int)))) (xw_or1 (XW.pt (xw_and (xt_eq (hu64 hr) (x_ix (x_v 2) (x_v 3)) x_int) (xw_and1 (xt_ne (hu64 hr) (x_ix (x_v 2) (x_v 4)) x_int))))))) (xs_one (xs_ret x_bl)) xs_nil)))
 (xs_cons (xs_forR1 PassesOwn.never rfl (by rfl) M.rng (x_v 1) (pg_name (i := 3) sc__law_can_stand.nd rfl (by first | exact .inl rfl | exact .inr rfl)) gl_name (xs_one (xs_forR1 PassesOwn.never rfl (by rfl) M.rng (x_v 1) (pg_name (i := 4) sc__law_can_stand.nd rfl (by first | exact .inl rfl | exact .inr rfl)) gl_name (xs_one (xs_if (XW.pt (xw_and (xt_eq (hu64 hr) (x_ix (x_v 2) (x_v 3)) x_int) (xw_and (xt_eq (hu64 hr) (x_ix (x_v 2) (x_v 4)) x_int) (xw_and1 (xt_notIn (hu65 hr) (x_tup (xa_cons (x_v 3) (xa_cons (x_v 4) xa_nil))) (x_v 0)))))) (xs_one (xs_ret x_bl)) xs_nil)))))
 (xs_one (xs_ret x_bl))))
/-! ### _law_put_in -/
def N__law_put_in : List Str := ["_law_befores", "_law_name", "_law_sides", "_law_more", "_law_other"]
theorem sc__law_put_in : FnScope N__law_put_in ["_law_befores", "_law_name", "_law_sides"] (defScope (topS 46)) := ⟨rfl, rfl, rfl, by decide +kernel, rfl, by decide +kernel, by decide +kernel⟩
def t__law_put_in : TS3 :=
 (seq3 (asg3 (lcR1 (v3 1) (gn3 4) (tst3 (op2 (eq3 false) (op2 ix3 (v3 2) (v3 4)) (c3 (.int 0)))) (tup3 (cons3 (v3 4) (cons3 (v3 1) nil3))) [4]) 3)
 (seq3 (asg3 (op2 add3 (mv3 3) (lcR1 (v3 1) (gn3 4) (tst3 (op2 (eq3 false) (op2 ix3 (v3 2) (v3 4)) (c3 (.int 1)))) (tup3 (cons3 (v3 1) (cons3 (v3 4) nil3))) [4])) 3)
 (ret3 (call1 tuple3 (call1 sort3 (op2 add3 (call1 list3 (v3 0)) (mv3 3)))))))
theorem b__law_put_in {P : Program} {w : World} {K : PySem.W.Frag} {mg : Str → Option Value} {base : Heap} {C f : Addr} {k : Nat} (M : Mods mg) (cdv : Value) (A : Around) (outer : List Env) (s : Shared) (H : Hp) (E : XK)
  (hr : Room k (A.deeper (PyProof.Rows.envOfC "_law_put_in" (defScope (topS 46)) s.heap.objs.size f cdv))) : XSs (cxOf CX0 P w K mg base N__law_put_in "_law_put_in" (defScope (topS 46)) f cdv A outer s H E).nox C (defBody (topS 46)) (t__law_put_in) :=
 (xs_cons (xs_setLcR1 3 sc__law_put_in.nd (by rfl) M.rng (x_v 1) (blkOk_by (own := [("_law_other", 4)]) (by kernel_rfl)) gl_name (by decide) ⟨fun _ _ _ _ _ => (pg_name (i := 4) sc__law_put_in.nd rfl (by first | exact .inl rfl | exact .inr rfl)), fun _ _ _ _ _ => (xts_one (xt_eq (hu64 hr) (x_ix (x_v 2) (x_v 4)) x_int)), fun _ _ _ _ _ => (x_tup (xa_cons (x_v 4) (xa_cons (x_v 1) xa_nil)))⟩)
 (xs_cons (xs_set 3 sc__law_put_in.nd (x_add (x_mv 3) (x_lcR1 sc__law_put_in.nd (by rfl) M.rng (x_v 1) (blkOk_by (own := [("_law_other", 4)]) (by kernel_rfl)) gl_name (by decide) ⟨fun _ _ _ _ _ => (pg_name (i := 4) sc__law_put_in.nd rfl (by first | exact .inl rfl | exact .inr rfl)), fun _ _ _ _ _ => (xts_one (xt_eq (hu64 hr) (x_ix (x_v 2) (x_v 4)) x_int)), fun _ _ _ _ _ => (x_tup (xa_cons (x_v 1) (xa_cons (x_v 4) xa_nil)))⟩)))
 (xs_one (xs_ret (x_callTy call_tuple_of cl_tuple (by rfl) M.tup (by decide +kernel) (x_callB (cr_sort3 (hu64 hr)) cl_sort (by rfl) M.srt (by decide +kernel) (x_add (x_callTy (call_list3 rfl) cl_list (by rfl) M.lst (by decide +kernel) (x_v 0)) (x_mv 3))))))))
/-! ### _law_by_book -/
def N__law_by_book : List Str := ["_law_befores", "_law_many", "_law_book_here", "_law_order", "_law_bottom", "_law_left", "_law_todo", "_law_deed", "_law_one", "_law_other"]
theorem sc__law_by_book : FnScope N__law_by_book ["_law_befores", "_law_many", "_law_book_here", "_law_order"] (defScope (topS 47)) := ⟨rfl, rfl, rfl, by decide +kernel, rfl, by decide +kernel, by decide +kernel⟩
def t__law_by_book : TS3 :=
 (seq3 (asg3 (c3 (.int 1)) 4)
 (seq3 (asg3 (call1 list3 (v3 3)) 5)
 (seq3 (asg3 (call1 list3 (v3 2)) 6)
 (seq3 (while3 (tst3 (op2 gt3 (call1B len3 5) (c3 (.int 0)))) (seq3 (ifS3 (tst3 (op2 (eq3 false) (call1B len3 6) (c3 (.int 0)))) (asg3 (call1 list3 (v3 2)) 6) next3)
 (seq3 (asg3 (pop0 6) 7)
 (ifS3 (tst3 (op2 (eq3 false) (op2 ix3 (v3 7) (c3 (.int 0))) (c3 (.str "if")))) (asg3 (op2 add3 (call1 list3 (if3 (and3 (tst3 (op2 lt3 (op2 ix3 (v3 7) (c3 (.int 1))) (v3 1))) (tst3 (op2B (in3 true) (op2 ix3 (v3 7) (c3 (.int 1))) 5))) (op2 ix3 (v3 7) (c3 (.int 2))) (op2 ix3 (v3 7) (c3 (.int 3))))) (mv3 6)) 6) (ifS3 (tst3 (op2 (eq3 false) (op2 ix3 (v3 7) (c3 (.int 0))) (c3 (.str "front")))) (seq3 (asg3 (op2 (int2 CMul fun i j => .int (i * j)) (v3 4) (op2 (int20 fun i j => .int (i - j)) (call1B len3 5) (lenSet3 (lcT3 (v3 0) (gp3 8 9) (and3 (tst3 (op2B (in3 false) (v3 8) 5)) (tst3 (op2B (in3 false) (v3 9) 5))) (v3 9) [8, 9])))) 4)
 (drop3 (pop0 5))) (seq3 (asg3 (op2 (int2 CMul fun i j => .int (i * j)) (v3 4) (op2 (int20 fun i j => .int (i - j)) (call1B len3 5) (lenSet3 (lcT3 (v3 0) (gp3 8 9) (and3 (tst3 (op2B (in3 false) (v3 8) 5)) (tst3 (op2B (in3 false) (v3 9) 5))) (v3 8) [8, 9])))) 4)
 (drop3 (pop3 5))))))))
 (ret3 (tup3 (cons3 (c3 (.int 1)) (cons3 (v3 4) nil3))))))))
theorem b__law_by_book {P : Program} {w : World} {K : PySem.W.Frag} {mg : Str → Option Value} {base : Heap} {C f : Addr} {k : Nat} (M : Mods mg) (cdv : Value) (A : Around) (outer : List Env) (s : Shared) (H : Hp) (E : XK)
  (hr : Room k (A.deeper (PyProof.Rows.envOfC "_law_by_book" (defScope (topS 47)) s.heap.objs.size f cdv))) : XSs (cxOf CX0 P w K mg base N__law_by_book "_law_by_book" (defScope (topS 47)) f cdv A outer s H E).nox C (defBody (topS 47)) (t__law_by_book) :=
 (xs_cons (xs_set 4 sc__law_by_book.nd x_int)
 (xs_cons (xs_set 5 sc__law_by_book.nd (x_callTy (call_list3 rfl) cl_list (by rfl) M.lst (by decide +kernel) (x_v 3)))
 (xs_cons (xs_set 6 sc__law_by_book.nd (x_callTy (call_list3 rfl) cl_list (by rfl) M.lst (by decide +kernel) (x_v 2)))
 (xs_cons (xs_while PassesOwn.never (xt_gt (x_callBB call_len_seq cl_len (by rfl) M.len (by decide +kernel) (pv 5)) x_int) (xs_cons (xs_if (xt_eq (hu64 hr) (x_callBB call_len_seq cl_len (by rfl) M.len (by decide +kernel) (pv 6)) x_int) (xs_one (xs_set 6 sc__law_by_book.nd (x_callTy (call_list3 rfl) cl_list (by rfl) M.lst (by decide +kernel) (x_v 2)))) xs_nil)
 (xs_cons (xs_set 7 sc__law_by_book.nd (x_pop0 (pv 6)))
 (xs_one (xs_if (xt_eq (hu64 hr) (x_ix (x_v 7) x_int) x_str) (xs_one (xs_set 6 sc__law_by_book.nd (x_add (x_callTy (call_list3 rfl) cl_list (by rfl) M.lst (by decide +kernel) (x_if (XW.pt (xw_and (xt_lt (x_ix (x_v 7) x_int) (x_v 1)) (xw_and1 (xt_notInB (hu65 hr) (x_ix (x_v 7) x_int) (pv 5))))) (x_ix (x_v 7) x_int) (x_ix (x_v 7) x_int))) (x_mv 6)))) (xs_one (xs_if (xt_eq (hu64 hr) (x_ix (x_v 7) x_int) x_str) (xs_cons (xs_set 4 sc__law_by_book.nd (x_mul (x_v 4) (x_sub (x_callBB call_len_seq cl_len (by rfl) M.len (by decide +kernel) (pv 5)) (x_lenSet rfl (by rfl) M.len (by rfl) M.set (x_lcT sc__law_by_book.nd (x_v 0) (blkOk_by (own := [("_law_one", 8), ("_law_other", 9)]) (by kernel_rfl)) gl_pair (by decide) ⟨fun _ _ _ _ _ => (pg_pair 8 9 sc__law_by_book.nd), fun _ _ _ _ _ => (xts_one (XW.pt (xw_and (xt_inB (hu65 hr) (x_v 8) (pv 5)) (xw_and1 (xt_inB (hu65 hr) (x_v 9) (pv 5)))))), fun _ _ _ _ _ => (x_v 9)⟩)))))
 (xs_one (xs_expr (x_pop0 (pv 5))))) (xs_cons (xs_set 4 sc__law_by_book.nd (x_mul (x_v 4) (x_sub (x_callBB call_len_seq cl_len (by rfl) M.len (by decide +kernel) (pv 5)) (x_lenSet rfl (by rfl) M.len (by rfl) M.set (x_lcT sc__law_by_book.nd (x_v 0) (blkOk_by (own := [("_law_one", 8), ("_law_other", 9)]) (by kernel_rfl)) gl_pair (by decide) ⟨fun _ _ _ _ _ => (pg_pair 8 9 sc__law_by_book.nd), fun _ _ _ _ _ => (xts_one (XW.pt (xw_and (xt_inB (hu65 hr) (x_v 8) (pv 5)) (xw_and1 (xt_inB (hu65 hr) (x_v 9) (pv 5)))))), fun _ _ _ _ _ => (x_v 8)⟩)))))
 (xs_one (xs_expr (x_pop (pv 5))))))))))))
 (xs_one (xs_ret (x_tup (xa_cons x_int (xa_cons (x_v 4) xa_nil)))))))))
/-! ### _law_deeds -/
def N__law_deeds : List Str := ["_law_tape_here", "_law_deep", "_law_most", "_law_found", "_law_turn", "_law_kind", "_law_first", "_law_second"]
theorem sc__law_deeds : FnScope N__law_deeds ["_law_tape_here", "_law_deep", "_law_most"] (defScope (topS 48)) := ⟨rfl, rfl, rfl, by decide +kernel, rfl, by decide +kernel, by decide +kernel⟩
def t__law_deeds (T__law_pick : Tp → List D3 → (R3 → Tp → Prop) → Prop) (T__law_deeds : Tp → List D3 → (R3 → Tp → Prop) → Prop) : TS3 :=
 (seq3 (asg3 (lst3 nil3) 3)
 (seq3 (forR1 (op2 add3 (c3 (.int 1)) (callT 0 T__law_pick (cons3 (v3 2) nil3))) (gn3 4) (seq3 (asg3 (callT 0 T__law_pick (cons3 (c3 (.int 4)) nil3)) 5)
 (ifS3 (and3 (tst3 (op2 (eq3 false) (v3 5) (c3 (.int 3)))) (tst3 (op2 lt3 (v3 1) (c3 (.int 4))))) (seq3 (par3 6 7 (cons3 (callT 0 T__law_deeds (cons3 (op2 add3 (v3 1) (c3 (.int 1))) (cons3 (c3 (.int 2)) nil3))) (cons3 (callT 0 T__law_deeds (cons3 (op2 add3 (v3 1) (c3 (.int 1))) (cons3 (c3 (.int 2)) nil3))) nil3)))
 (app3 3 (tup3 (cons3 (c3 (.str "if")) (cons3 (callT 0 T__law_pick (cons3 (op2 ix3 (lst3 (cons3 (c3 (.int 4)) (cons3 (c3 (.int 8)) nil3))) (callT 0 T__law_pick (cons3 (c3 (.int 2)) nil3))) nil3)) (cons3 (v3 6) (cons3 (v3 7) nil3))))))) (app3 3 (op2 ix3 (lst3 (cons3 (tup3 (cons3 (c3 (.str "front")) nil3)) (cons3 (tup3 (cons3 (c3 (.str "back")) nil3)) (cons3 (tup3 (cons3 (c3 (.str "front")) nil3)) (cons3 (tup3 (cons3 (c3 (.str "back")) nil3)) nil3))))) (v3 5))))))
 (ret3 (call1 tuple3 (mv3 3)))))
theorem b__law_deeds {P : Program} {w : World} {K : PySem.W.Frag} {mg : Str → Option Value} {base : Heap} {C f : Addr} {k : Nat} (M : Mods mg) {T__law_pick : Tp → List D3 → (R3 → Tp → Prop) → Prop} {k__law_pick : Nat} {f__law_pick : Addr} {d__law_pick : FuncData} {p__law_pick : List Str} (U__law_pick : Callee K mg "_law_pick" f__law_pick d__law_pick p__law_pick) (G__law_pick : FnOk P w K mg base CX0 k__law_pick f__law_pick d__law_pick p__law_pick (spT ⟨K, C, P, w⟩ T__law_pick)) (h__law_pick : k__law_pick ≤ k) {T__law_deeds : Tp → List D3 → (R3 → Tp → Prop) → Prop} {k__law_deeds : Nat} {f__law_deeds : Addr} {d__law_deeds : FuncData} {p__law_deeds : List Str} (U__law_deeds : Callee K mg "_law_deeds" f__law_deeds d__law_deeds p__law_deeds) (G__law_deeds : FnOk P w K mg base CX0 k__law_deeds f__law_deeds d__law_deeds p__law_deeds (spT ⟨K, C, P, w⟩ T__law_deeds)) (h__law_deeds : k__law_deeds ≤ k) (cdv : Value) (A : Around) (outer : List Env) (s : Shared) (H : Hp) (E : XK)
  (hr : Room k (A.deeper (PyProof.Rows.envOfC "_law_deeds" (defScope (topS 48)) s.heap.objs.size f cdv))) : XSs (cxOf CX0 P w K mg base N__law_deeds "_law_deeds" (defScope (topS 48)) f cdv A outer s H E).nox C (defBody (topS 48)) (t__law_deeds T__law_pick T__law_deeds) :=
 (xs_cons (xs_set 3 sc__law_deeds.nd (x_lst xa_nil))
 (xs_cons (xs_forR1 PassesOwn.never rfl (by rfl) M.rng (x_add x_int (x_callT G__law_pick (hr.mono h__law_pick) (by rfl) U__law_pick.m U__law_pick.kp U__law_pick.b (pv 0) (xa_cons (x_v 2) xa_nil))) (pg_name (i := 4) sc__law_deeds.nd rfl (by first | exact .inl rfl | exact .inr rfl)) gl_name (xs_cons (xs_set 5 sc__law_deeds.nd (x_callT G__law_pick (hr.mono h__law_pick) (by rfl) U__law_pick.m U__law_pick.kp U__law_pick.b (pv 0) (xa_cons x_int xa_nil)))
 (xs_one (xs_if (XW.pt (xw_and (xt_eq (hu64 hr) (x_v 5) x_int) (xw_and1 (xt_lt (x_v 1) x_int)))) (xs_cons (xs_par 6 7 sc__law_deeds.nd (xa_cons (x_callT G__law_deeds (hr.mono h__law_deeds) (by rfl) U__law_deeds.m U__law_deeds.kp U__law_deeds.b (pv 0) (xa_cons (x_add (x_v 1) x_int) (xa_cons x_int xa_nil))) (xa_cons (x_callT G__law_deeds (hr.mono h__law_deeds) (by rfl) U__law_deeds.m U__law_deeds.kp U__law_deeds.b (pv 0) (xa_cons (x_add (x_v 1) x_int) (xa_cons x_int xa_nil))) xa_nil)))
 (xs_one (xs_app (pv 3) (x_tup (xa_cons x_str (xa_cons (x_callT G__law_pick (hr.mono h__law_pick) (by rfl) U__law_pick.m U__law_pick.kp U__law_pick.b (pv 0) (xa_cons (x_ix (x_lst (xa_cons x_int (xa_cons x_int xa_nil))) (x_callT G__law_pick (hr.mono h__law_pick) (by rfl) U__law_pick.m U__law_pick.kp U__law_pick.b (pv 0) (xa_cons x_int xa_nil))) xa_nil)) (xa_cons (x_v 6) (xa_cons (x_v 7) xa_nil)))))))) (xs_one (xs_app (pv 3) (x_ix (x_lst (xa_cons (x_tup (xa_cons x_str xa_nil)) (xa_cons (x_tup (xa_cons x_str xa_nil)) (xa_cons (x_tup (xa_cons x_str xa_nil)) (xa_cons (x_tup (xa_cons x_str xa_nil)) xa_nil))))) (x_v 5))))))))
 (xs_one (xs_ret (x_callTy call_tuple_of cl_tuple (by rfl) M.tup (by decide +kernel) (x_mv 3))))))
/-! ### _law_many_deeds -/
def N__law_many_deeds : List Str := ["_law_deeds_here", "_law_deed", "_law_part"]
theorem sc__law_many_deeds : FnScope N__law_many_deeds ["_law_deeds_here"] (defScope (topS 49)) := ⟨rfl, rfl, rfl, by decide +kernel, rfl, by decide +kernel, by decide +kernel⟩
def t__law_many_deeds (T__law_many_deeds : List D3 → (R3 → Prop) → Prop) : TS3 :=
 (ret3 (call1 (intL List.sum) (lcT3 (v3 0) (gn3 1) yes3 (op2 add3 (c3 (.int 1)) (call1 (intL List.sum) (lcT3 (sl3 (some 2) none (v3 1)) (gn3 2) yes3 (callF T__law_many_deeds (cons3 (v3 2) nil3)) [2]))) [1])))
theorem b__law_many_deeds {P : Program} {w : World} {K : PySem.W.Frag} {mg : Str → Option Value} {base : Heap} {C f : Addr} {k : Nat} (M : Mods mg) {T__law_many_deeds : List D3 → (R3 → Prop) → Prop} {k__law_many_deeds : Nat} {f__law_many_deeds : Addr} {d__law_many_deeds : FuncData} {p__law_many_deeds : List Str} (U__law_many_deeds : Callee K mg "_law_many_deeds" f__law_many_deeds d__law_many_deeds p__law_many_deeds) (G__law_many_deeds : FnOk P w K mg base CX0 k__law_many_deeds f__law_many_deeds d__law_many_deeds p__law_many_deeds (sp3 ⟨K, C, P, w⟩ T__law_many_deeds)) (h__law_many_deeds : k__law_many_deeds ≤ k) (cdv : Value) (A : Around) (outer : List Env) (s : Shared) (H : Hp) (E : XK)
  (hr : Room k (A.deeper (PyProof.Rows.envOfC "_law_many_deeds" (defScope (topS 49)) s.heap.objs.size f cdv))) : XSs (cxOf CX0 P w K mg base N__law_many_deeds "_law_many_deeds" (defScope (topS 49)) f cdv A outer s H E).nox C (defBody (topS 49)) (t__law_many_deeds T__law_many_deeds) :=
 (xs_one (xs_ret (x_callB (cr_sum rfl) cl_sum (by rfl) M.sum (by decide +kernel) (x_lcT sc__law_many_deeds.nd (x_v 0) (blkOk_by (own := [("_law_deed", 1)]) (by kernel_rfl)) gl_name (by decide) ⟨fun _ _ _ _ _ => (pg_name (i := 1) sc__law_many_deeds.nd rfl (by first | exact .inl rfl | exact .inr rfl)), fun _ _ _ _ _ => xts_nil, fun _ _ _ _ _ => (x_add x_int (x_callB (cr_sum rfl) cl_sum (by rfl) M.sum (by decide +kernel) (x_lcT sc__law_many_deeds.nd (x_sl (x_v 1) (po_some pe_int) cst_int po_none cst_none) (blkOk_by (own := [("_law_part", 2)]) (by kernel_rfl)) gl_name (by decide) ⟨fun _ _ _ _ _ => (pg_name (i := 2) sc__law_many_deeds.nd rfl (by first | exact .inl rfl | exact .inr rfl)), fun _ _ _ _ _ => xts_nil, fun _ _ _ _ _ => (x_call G__law_many_deeds (hr.mono h__law_many_deeds) (by rfl) U__law_many_deeds.m U__law_many_deeds.kp U__law_many_deeds.b (xa_cons (x_v 2) xa_nil))⟩)))⟩))))
/-! ### _law_book -/
def N__law_book : List Str := ["_law_tape_here", "_law_kind", "_law_found"]
theorem sc__law_book : FnScope N__law_book ["_law_tape_here"] (defScope (topS 50)) := ⟨rfl, rfl, rfl, by decide +kernel, rfl, by decide +kernel, by decide +kernel⟩
def t__law_book (T__law_pick : Tp → List D3 → (R3 → Tp → Prop) → Prop) (T__law_deeds : Tp → List D3 → (R3 → Tp → Prop) → Prop) (T__law_many_deeds : List D3 → (R3 → Prop) → Prop) : TS3 :=
 (seq3 (asg3 (callT 0 T__law_pick (cons3 (c3 (.int 8)) nil3)) 1)
 (seq3 (ifS3 (tst3 (op2 (eq3 false) (v3 1) (c3 (.int 0)))) (ret3 (tup3 (cons3 (tup3 (cons3 (c3 (.str "front")) nil3)) nil3))) next3)
 (seq3 (ifS3 (tst3 (op2 (eq3 false) (v3 1) (c3 (.int 1)))) (ret3 (tup3 (cons3 (tup3 (cons3 (c3 (.str "back")) nil3)) nil3))) next3)
 (seq3 (asg3 (callT 0 T__law_deeds (cons3 (c3 (.int 1)) (cons3 (c3 (.int 4)) nil3))) 2)
 (ret3 (if3 (tst3 (op2 le3 (callF T__law_many_deeds (cons3 (v3 2) nil3)) (c3 (.int 40)))) (v3 2) (tup3 (cons3 (tup3 (cons3 (c3 (.str "front")) nil3)) (cons3 (tup3 (cons3 (c3 (.str "back")) nil3)) nil3)))))))))
theorem b__law_book {P : Program} {w : World} {K : PySem.W.Frag} {mg : Str → Option Value} {base : Heap} {C f : Addr} {k : Nat} (M : Mods mg) {T__law_pick : Tp → List D3 → (R3 → Tp → Prop) → Prop} {k__law_pick : Nat} {f__law_pick : Addr} {d__law_pick : FuncData} {p__law_pick : List Str} (U__law_pick : Callee K mg "_law_pick" f__law_pick d__law_pick p__law_pick) (G__law_pick : FnOk P w K mg base CX0 k__law_pick f__law_pick d__law_pick p__law_pick (spT ⟨K, C, P, w⟩ T__law_pick)) (h__law_pick : k__law_pick ≤ k) {T__law_deeds : Tp → List D3 → (R3 → Tp → Prop) → Prop} {k__law_deeds : Nat} {f__law_deeds : Addr} {d__law_deeds : FuncData} {p__law_deeds : List Str} (U__law_deeds : Callee K mg "_law_deeds" f__law_deeds d__law_deeds p__law_deeds) (G__law_deeds : FnOk P w K mg base CX0 k__law_deeds f__law_deeds d__law_deeds p__law_deeds (spT ⟨K, C, P, w⟩ T__law_deeds)) (h__law_deeds : k__law_deeds ≤ k) {T__law_many_deeds : List D3 → (R3 → Prop) → Prop} {k__law_many_deeds : Nat} {f__law_many_deeds : Addr} {d__law_many_deeds : FuncData} {p__law_many_deeds : List Str} (U__law_many_deeds : Callee K mg "_law_many_deeds" f__law_many_deeds d__law_many_deeds p__law_many_deeds) (G__law_many_deeds : FnOk P w K mg base CX0 k__law_many_deeds f__law_many_deeds d__law_many_deeds p__law_many_deeds (sp3 ⟨K, C, P, w⟩ T__law_many_deeds)) (h__law_many_deeds : k__law_many_deeds ≤ k) (cdv : Value) (A : Around) (outer : List Env) (s : Shared) (H : Hp) (E : XK)
  (hr : Room k (A.deeper (PyProof.Rows.envOfC "_law_book" (defScope (topS 50)) s.heap.objs.size f cdv))) : XSs (cxOf CX0 P w K mg base N__law_book "_law_book" (defScope (topS 50)) f cdv A outer s H E).nox C (defBody (topS 50)) (t__law_book T__law_pick T__law_deeds T__law_many_deeds) :=
 (xs_cons (xs_set 1 sc__law_book.nd (x_callT G__law_pick (hr.mono h__law_pick) (by rfl) U__law_pick.m U__law_pick.kp U__law_pick.b (pv 0) (xa_cons x_int xa_nil)))
 (xs_cons (xs_if (xt_eq (hu64 hr) (x_v 1) x_int) (xs_one (xs_ret (x_tup (xa_cons (x_tup (xa_cons x_str xa_nil)) xa_nil)))) xs_nil)
 (xs_cons (xs_if (xt_eq (hu64 hr) (x_v 1) x_int) (xs_one (xs_ret (x_tup (xa_cons (x_tup (xa_cons x_str xa_nil)) xa_nil)))) xs_nil)
 (xs_cons (xs_set 2 sc__law_book.nd (x_callT G__law_deeds (hr.mono h__law_deeds) (by rfl) U__law_deeds.m U__law_deeds.kp U__law_deeds.b (pv 0) (xa_cons x_int (xa_cons x_int xa_nil))))
 (xs_one (xs_ret (x_if (xt_le (x_call G__law_many_deeds (hr.mono h__law_many_deeds) (by rfl) U__law_many_deeds.m U__law_many_deeds.kp U__law_many_deeds.b (xa_cons (x_v 2) xa_nil)) x_int) (x_v 2) (x_tup (xa_cons (x_tup (xa_cons x_str xa_nil)) (xa_cons (x_tup (xa_cons x_str xa_nil)) xa_nil))))))))))
/-! ### _law_first_parted -/
def N__law_first_parted : List Str := ["_law_one", "_law_other", "_law_many", "_law_names", "_law_befores", "_law_order"]
theorem sc__law_first_parted : FnScope N__law_first_parted ["_law_one", "_law_other", "_law_many"] (defScope (topS 51)) := ⟨rfl, rfl, rfl, by decide +kernel, rfl, by decide +kernel, by decide +kernel⟩
def t__law_first_parted (T__law_by_book : List D3 → (R3 → Prop) → Prop) (T__law_orders : List D3 → (R3 → Prop) → Prop) (T__law_every : List D3 → (R3 → Prop) → Prop) : TS3 :=
 (seq3 (forR2 (c3 (.int 1)) (op2 add3 (v3 2) (c3 (.int 1))) (gn3 3) (forL3 (callF T__law_every (cons3 (v3 3) nil3)) (gn3 4) (forL3 (callF T__law_orders (cons3 (v3 4) (cons3 (v3 3) nil3))) (gn3 5) (ifS3 (tst3 (op2 (eq3 true) (callF T__law_by_book (cons3 (v3 4) (cons3 (v3 3) (cons3 (v3 0) (cons3 (v3 5) nil3))))) (callF T__law_by_book (cons3 (v3 4) (cons3 (v3 3) (cons3 (v3 1) (cons3 (v3 5) nil3))))))) (ret3 (tup3 (cons3 (v3 3) (cons3 (v3 4) (cons3 (v3 5) nil3))))) next3))))
 (ret3 (c3 .non)))
theorem b__law_first_parted {P : Program} {w : World} {K : PySem.W.Frag} {mg : Str → Option Value} {base : Heap} {C f : Addr} {k : Nat} (M : Mods mg) {T__law_by_book : List D3 → (R3 → Prop) → Prop} {k__law_by_book : Nat} {f__law_by_book : Addr} {d__law_by_book : FuncData} {p__law_by_book : List Str} (U__law_by_book : Callee K mg "_law_by_book" f__law_by_book d__law_by_book p__law_by_book) (G__law_by_book : FnOk P w K mg base CX0 k__law_by_book f__law_by_book d__law_by_book p__law_by_book (sp3 ⟨K, C, P, w⟩ T__law_by_book)) (h__law_by_book : k__law_by_book ≤ k) {T__law_orders : List D3 → (R3 → Prop) → Prop} {k__law_orders : Nat} {f__law_orders : Addr} {d__law_orders : FuncData} {p__law_orders : List Str} (U__law_orders : Callee K mg "_law_orders" f__law_orders d__law_orders p__law_orders) (G__law_orders : FnOk P w K mg base CX0 k__law_orders f__law_orders d__law_orders p__law_orders (sp3 ⟨K, C, P, w⟩ T__law_orders)) (h__law_orders : k__law_orders ≤ k) {T__law_every : List D3 → (R3 → Prop) → Prop} {k__law_every : Nat} {f__law_every : Addr} {d__law_every : FuncData} {p__law_every : List Str} (U__law_every : Callee K mg "_law_every" f__law_every d__law_every p__law_every) (G__law_every : FnOk P w K mg base CX0 k__law_every f__law_every d__law_every p__law_every (sp3 ⟨K, C, P, w⟩ T__law_every)) (h__law_every : k__law_every ≤ k) (cdv : Value) (A : Around) (outer : List Env) (s : Shared) (H : Hp) (E : XK)
  (hr : Room k (A.deeper (PyProof.Rows.envOfC "_law_first_parted" (defScope (topS 51)) s.heap.objs.size f cdv))) : XSs (cxOf CX0 P w K mg base N__law_first_parted "_law_first_parted" (defScope (topS 51)) f cdv A outer s H E).nox C (defBody (topS 51)) (t__law_first_parted T__law_by_book T__law_orders T__law_every) :=
 (xs_cons (xs_forR2 PassesOwn.never rfl (by rfl) M.rng x_int (x_add (x_v 2) x_int) (pg_name (i := 3) sc__law_first_parted.nd rfl (by first | exact .inl rfl | exact .inr rfl)) gl_name (xs_one (xs_forL PassesOwn.never rfl (x_call G__law_every (hr.mono h__law_every) (by rfl) U__law_every.m U__law_every.kp U__law_every.b (xa_cons (x_v 3) xa_nil)) (pg_name (i := 4) sc__law_first_parted.nd rfl (by first | exact .inl rfl | exact .inr rfl)) gl_name (xs_one (xs_forL PassesOwn.never rfl (x_call G__law_orders (hr.mono h__law_orders) (by rfl) U__law_orders.m U__law_orders.kp U__law_orders.b (xa_cons (x_v 4) (xa_cons (x_v 3) xa_nil))) (pg_name (i := 5) sc__law_first_parted.nd rfl (by first | exact .inl rfl | exact .inr rfl)) gl_name (xs_one (xs_if (xt_ne (hu64 hr) (x_call G__law_by_book (hr.mono h__law_by_book) (by rfl) U__law_by_book.m U__law_by_book.kp U__law_by_book.b (xa_cons (x_v 4) (xa_cons (x_v 3) (xa_cons (x_v 0) (xa_cons (x_v 5) xa_nil))))) (x_call G__law_by_book (hr.mono h__law_by_book) (by rfl) U__law_by_book.m U__law_by_book.kp U__law_by_book.b (xa_cons (x_v 4) (xa_cons (x_v 3) (xa_cons (x_v 1) (xa_cons (x_v 5) xa_nil)))))) (xs_one (xs_ret (x_tup (xa_cons (x_v 3) (xa_cons (x_v 4) (xa_cons (x_v 5) xa_nil)))))) xs_nil)))))))
 (xs_one (xs_ret x_non)))
/-! ### law -/
def N_law : List Str := ["_law_script", "_law_tape_here", "_law_one", "_law_other", "_law_kind", "_law_many", "_law_due", "_law_first", "_law_second", "_law_told"]
theorem sc_law : FnScope N_law ["_law_script"] (defScope (topS 52)) := ⟨rfl, rfl, rfl, by decide +kernel, rfl, by decide +kernel, by decide +kernel⟩
def t_law (T__law_tape : List D3 → (R3 → Prop) → Prop) (T__law_book : Tp → List D3 → (R3 → Tp → Prop) → Prop) (T__law_pick : Tp → List D3 → (R3 → Tp → Prop) → Prop) (T__law_many_deeds : List D3 → (R3 → Prop) → Prop) (T__law_first_parted : List D3 → (R3 → Prop) → Prop) (T_books_part : List D3 → (R3 → Prop) → Prop) : TS3 :=
 (seq3 (asg3 (callF T__law_tape (cons3 (v3 0) nil3)) 1)
 (seq3 (asg3 (callT 1 T__law_book nil3) 2)
 (seq3 (asg3 (callT 1 T__law_book nil3) 3)
 (seq3 (asg3 (callT 1 T__law_pick (cons3 (c3 (.int 5)) nil3)) 4)
 (seq3 (ifS3 (and3 (tst3 (op2 (eq3 false) (v3 4) (c3 (.int 0)))) (tst3 (op2 lt3 (callF T__law_many_deeds (cons3 (v3 2) nil3)) (c3 (.int 39))))) (asg3 (op2 add3 (v3 2) (tup3 (cons3 (tup3 (cons3 (c3 (.str "front")) nil3)) nil3))) 3) next3)
 (seq3 (ifS3 (and3 (tst3 (op2 (eq3 false) (v3 4) (c3 (.int 1)))) (tst3 (op2 lt3 (callF T__law_many_deeds (cons3 (v3 2) nil3)) (c3 (.int 19))))) (asg3 (op2 add3 (v3 2) (v3 2)) 3) next3)
 (seq3 (ifS3 (and3 (tst3 (op2 (eq3 false) (v3 4) (c3 (.int 2)))) (tst3 (op2 lt3 (callF T__law_many_deeds (cons3 (v3 2) nil3)) (c3 (.int 18))))) (asg3 (tup3 (cons3 (tup3 (cons3 (c3 (.str "if")) (cons3 (callT 1 T__law_pick (cons3 (c3 (.int 4)) nil3)) (cons3 (v3 2) (cons3 (v3 2) nil3))))) nil3)) 3) next3)
 (seq3 (asg3 (op2 add3 (c3 (.int 1)) (callT 1 T__law_pick (cons3 (c3 (.int 3)) nil3))) 5)
 (seq3 (ifS3 (tst3 (op2 (eq3 false) (callT 1 T__law_pick (cons3 (c3 (.int 12)) nil3)) (c3 (.int 0)))) (asg3 (c3 (.int 4)) 5) next3)
 (seq3 (asg3 (callF T__law_first_parted (cons3 (v3 2) (cons3 (v3 3) (cons3 (v3 5) nil3)))) 6)
 (seq3 (forL3 (lst3 (cons3 (tup3 (cons3 (v3 2) (cons3 (v3 3) nil3))) (cons3 (tup3 (cons3 (v3 3) (cons3 (v3 2) nil3))) nil3))) (gp3 7 8) (seq3 (asg3 (callF T_books_part (cons3 (v3 7) (cons3 (v3 8) (cons3 (v3 5) nil3)))) 9)
 (seq3 (ifS3 (tst3 (op2 (eq3 true) (op2 (isN3 false) (v3 9) (c3 .non)) (op2 (isN3 false) (v3 6) (c3 .non)))) (ret3 (c3 (.bl false))) next3)
 (ifS3 (tst3 (op2 (isN3 true) (v3 9) (c3 .non))) (seq3 (ifS3 (or3 (not3 (tst3 (isiT .tup (v3 9)))) (or3 (tst3 (op2 (eq3 true) (call1 len3 (v3 9)) (c3 (.int 2)))) (not3 (tst3 (isiT .web (op2 ix3 (v3 9) (c3 (.int 0)))))))) (ret3 (c3 (.bl false))) next3)
 (ifS3 (tst3 (op2 (eq3 true) (tup3 (cons3 (fld3 (fun n _ _ _ => .int n) (op2 ix3 (v3 9) (c3 (.int 0)))) (cons3 (fld3 (fun _ b _ _ => b) (op2 ix3 (v3 9) (c3 (.int 0)))) (cons3 (op2 ix3 (v3 9) (c3 (.int 1))) nil3)))) (v3 6))) (ret3 (c3 (.bl false))) next3)) next3))))
 (ret3 (c3 (.bl true))))))))))))))
theorem b_law {P : Program} {w : World} {K : PySem.W.Frag} {mg : Str → Option Value} {base : Heap} {C f : Addr} {k : Nat} (M : Mods mg) {T__law_tape : List D3 → (R3 → Prop) → Prop} {k__law_tape : Nat} {f__law_tape : Addr} {d__law_tape : FuncData} {p__law_tape : List Str} (U__law_tape : Callee K mg "_law_tape" f__law_tape d__law_tape p__law_tape) (G__law_tape : FnOk P w K mg base CX0 k__law_tape f__law_tape d__law_tape p__law_tape (sp3 ⟨K, C, P, w⟩ T__law_tape)) (h__law_tape : k__law_tape ≤ k) {T__law_book : Tp → List D3 → (R3 → Tp → Prop) → Prop} {k__law_book : Nat} {f__law_book : Addr} {d__law_book : FuncData} {p__law_book : List Str} (U__law_book : Callee K mg "_law_book" f__law_book d__law_book p__law_book) (G__law_book : FnOk P w K mg base CX0 k__law_book f__law_book d__law_book p__law_book (spT ⟨K, C, P, w⟩ T__law_book)) (h__law_book : k__law_book ≤ k) {T__law_pick : Tp → List D3 → (R3 → Tp → Prop) → Prop} {k__law_pick : Nat} {f__law_pick : Addr} {d__law_pick : FuncData} {p__law_pick : List Str} (U__law_pick : Callee K mg "_law_pick" f__law_pick d__law_pick p__law_pick) (G__law_pick : FnOk P w K mg base CX0 k__law_pick f__law_pick d__law_pick p__law_pick (spT ⟨K, C, P, w⟩ T__law_pick)) (h__law_pick : k__law_pick ≤ k) {T__law_many_deeds : List D3 → (R3 → Prop) → Prop} {k__law_many_deeds : Nat} {f__law_many_deeds : Addr} {d__law_many_deeds : FuncData} {p__law_many_deeds : List Str} (U__law_many_deeds : Callee K mg "_law_many_deeds" f__law_many_deeds d__law_many_deeds p__law_many_deeds) (G__law_many_deeds : FnOk P w K mg base CX0 k__law_many_deeds f__law_many_deeds d__law_many_deeds p__law_many_deeds (sp3 ⟨K, C, P, w⟩ T__law_many_deeds)) (h__law_many_deeds : k__law_many_deeds ≤ k) {T__law_first_parted : List D3 → (R3 → Prop) → Prop} {k__law_first_parted : Nat} {f__law_first_parted : Addr} {d__law_first_parted : FuncData} {p__law_first_parted : List Str} (U__law_first_parted : Callee K mg "_law_first_parted" f__law_first_parted d__law_first_parted p__law_first_parted) (G__law_first_parted : FnOk P w K mg base CX0 k__law_first_parted f__law_first_parted d__law_first_parted p__law_first_parted (sp3 ⟨K, C, P, w⟩ T__law_first_parted)) (h__law_first_parted : k__law_first_parted ≤ k) {T_books_part : List D3 → (R3 → Prop) → Prop} {k_books_part : Nat} {f_books_part : Addr} {d_books_part : FuncData} {p_books_part : List Str} (U_books_part : Callee K mg "books_part" f_books_part d_books_part p_books_part) (G_books_part : FnOk P w K mg base CX0 k_books_part f_books_part d_books_part p_books_part (sp3 ⟨K, C, P, w⟩ T_books_part)) (h_books_part : k_books_part ≤ k) (WC : WebC K C) {Wb : Addr} (WI : WebI K C Wb) (m_Web : mg "Web" = some (.ref Wb)) (cdv : Value) (A : Around) (outer : List Env) (s : Shared) (H : Hp) (E : XK)
  (hr : Room k (A.deeper (PyProof.Rows.envOfC "law" (defScope (topS 52)) s.heap.objs.size f cdv))) : XSs (cxOf CX0 P w K mg base N_law "law" (defScope (topS 52)) f cdv A outer s H E).nox C (defBody (topS 52)) (t_law T__law_tape T__law_book T__law_pick T__law_many_deeds T__law_first_parted T_books_part) :=
 (xs_cons (xs_set 1 sc_law.nd (x_call G__law_tape (hr.mono h__law_tape) (by rfl) U__law_tape.m U__law_tape.kp U__law_tape.b (xa_cons (x_v 0) xa_nil)))
 (xs_cons (xs_set 2 sc_law.nd (x_callT G__law_book (hr.mono h__law_book) (by rfl) U__law_book.m U__law_book.kp U__law_book.b (pv 1) xa_nil))
 (xs_cons (xs_set 3 sc_law.nd (x_callT G__law_book (hr.mono h__law_book) (by rfl) U__law_book.m U__law_book.kp U__law_book.b (pv 1) xa_nil))
 (xs_cons (xs_set 4 sc_law.nd (x_callT G__law_pick (hr.mono h__law_pick) (by rfl) U__law_pick.m U__law_pick.kp U__law_pick.b (pv 1) (xa_cons x_int xa_nil)))
 (xs_cons (xs_if (XW.pt (xw_and (xt_eq (hu64 hr) (x_v 4) x_int) (xw_and1 (xt_lt (x_call G__law_many_deeds (hr.mono h__law_many_deeds) (by rfl) U__law_many_deeds.m U__law_many_deeds.kp U__law_many_deeds.b (xa_cons (x_v 2) xa_nil)) x_int)))) (xs_one (xs_set 3 sc_law.nd (x_add (x_v 2) (x_tup (xa_cons (x_tup (xa_cons x_str xa_nil)) xa_nil))))) xs_nil)
 (xs_cons (xs_if (XW.pt (xw_and (xt_eq (hu64 hr) (x_v 4) x_int) (xw_and1 (xt_lt (x_call G__law_many_deeds (hr.mono h__law_many_deeds) (by rfl) U__law_many_deeds.m U__law_many_deeds.kp U__law_many_deeds.b (xa_cons (x_v 2) xa_nil)) x_int)))) (xs_one (xs_set 3 sc_law.nd (x_add (x_v 2) (x_v 2)))) xs_nil)
 (xs_cons (xs_if (XW.pt (xw_and (xt_eq (hu64 hr) (x_v 4) x_int) (xw_and1 (xt_lt (x_call G__law_many_deeds (hr.mono h__law_many_deeds) (by rfl) U__law_many_deeds.m U__law_many_deeds.kp U__law_many_deeds.b (xa_cons (x_v 2) xa_nil)) x_int)))) (xs_one (xs_set 3 sc_law.nd (x_tup (xa_cons (x_tup (xa_cons x_str (xa_cons (x_callT G__law_pick (hr.mono h__law_pick) (by rfl) U__law_pick.m U__law_pick.kp U__law_pick.b (pv 1) (xa_cons x_int xa_nil)) (xa_cons (x_v 2) (xa_cons (x_v 2) xa_nil))))) xa_nil)))) xs_nil)
 (xs_cons (xs_set 5 sc_law.nd (x_add x_int (x_callT G__law_pick (hr.mono h__law_pick) (by rfl) U__law_pick.m U__law_pick.kp U__law_pick.b (pv 1) (xa_cons x_int xa_nil))))
 (xs_cons (xs_if (xt_eq (hu64 hr) (x_callT G__law_pick (hr.mono h__law_pick) (by rfl) U__law_pick.m U__law_pick.kp U__law_pick.b (pv 1) (xa_cons x_int xa_nil)) x_int) (xs_one (xs_set 5 sc_law.nd x_int)) xs_nil)
 (xs_cons (xs_set 6 sc_law.nd (x_call G__law_first_parted (hr.mono h__law_first_parted) (by rfl) U__law_first_parted.m U__law_first_parted.kp U__law_first_parted.b (xa_cons (x_v 2) (xa_cons (x_v 3) (xa_cons (x_v 5) xa_nil)))))
 (xs_cons (xs_forL PassesOwn.never rfl (x_lst (xa_cons (x_tup (xa_cons (x_v 2) (xa_cons (x_v 3) xa_nil))) (xa_cons (x_tup (xa_cons (x_v 3) (xa_cons (x_v 2) xa_nil))) xa_nil))) (pg_pair 7 8 sc_law.nd) gl_pair (xs_cons (xs_set 9 sc_law.nd (x_call G_books_part (hr.mono h_books_part) (by rfl) U_books_part.m U_books_part.kp U_books_part.b (xa_cons (x_v 7) (xa_cons (x_v 8) (xa_cons (x_v 5) xa_nil)))))
 (xs_cons (xs_if (xt_ne (hu64 hr) (x_isN (x_v 9) x_non) (x_isN (x_v 6) x_non)) (xs_one (xs_ret x_bl)) xs_nil)
 (xs_one (xs_if (xt_notN (x_v 9) x_non) (xs_cons (xs_if (XW.pt (xw_or (xt_not (xt_val (x_isi (W := 0) (c := .tup) ⟨rfl, rfl⟩ (by rfl) M.isi (x_v 9) (pe_bltn (by rfl) M.tup (by decide +kernel) rfl)))) (xw_or (xt_ne (hu64 hr) (x_callB call_len_seq cl_len (by rfl) M.len (by decide +kernel) (x_v 9)) x_int) (xw_or1 (xt_not (xt_val (x_isi (c := .web) ⟨rfl, rfl, WI⟩ (by rfl) M.isi (x_ix (x_v 9) x_int) (pe_glob (v := .ref Wb) (by rfl) m_Web rfl)))))))) (xs_one (xs_ret x_bl)) xs_nil)
 (xs_one (xs_if (xt_ne (hu64 hr) (x_tup (xa_cons (x_many WC (x_ix (x_v 9) x_int)) (xa_cons (x_bef WC (x_ix (x_v 9) x_int)) (xa_cons (x_ix (x_v 9) x_int) xa_nil)))) (x_v 6)) (xs_one (xs_ret x_bl)) xs_nil))) xs_nil)))))
 (xs_one (xs_ret x_bl)))))))))))))
end L3

set_option Elab.async false
set_option autoImplicit false
set_option linter.all false
set_option maxRecDepth 100000
/-! L3, part m: native mirrors of the data. -/
namespace L3
open PySem PySem.Spec L2

/-! ### sorting -/
section
variable {α : Type}
def ins (le : α → α → Bool) (x : α) : List α → List α
  | [] => [x]
  | y :: l => bif le x y then x :: y :: l else y :: ins le x l
def isort (le : α → α → Bool) : List α → List α
  | [] => []
  | x :: l => ins le x (isort le l)
structure LeOk (le : α → α → Bool) : Prop where
  (trans : ∀ a b c, le a b = true → le b c = true → le a c = true) (total : ∀ a b, le a b = true ∨ le b a = true)
  anti : ∀ a b, le a b = true → le b a = true → a = b
theorem ins_perm (le : α → α → Bool) (x : α) : ∀ l : List α, (ins le x l).Perm (x :: l)
  | [] => List.Perm.refl _
  | y :: l => by
    unfold ins
    cases le x y with
    | true => exact List.Perm.refl _
    | false => exact ((ins_perm le x l).cons y).trans (List.Perm.swap x y l)
theorem isort_perm (le : α → α → Bool) : ∀ l : List α, (isort le l).Perm l
  | [] => List.Perm.refl _
  | x :: l => (ins_perm le x _).trans ((isort_perm le l).cons x)
theorem ins_sorted {le : α → α → Bool} (o : LeOk le) (x : α) : ∀ l : List α, l.Pairwise (fun a b => le a b = true) → (ins le x l).Pairwise (fun a b => le a b = true)
  | [], _ => List.pairwise_singleton _ _
  | y :: l, h => by
    unfold ins
    rcases List.pairwise_cons.mp h with ⟨h1, h2⟩
    cases e : le x y with
    | true =>
      refine List.pairwise_cons.mpr ⟨fun z hz => ?_, h⟩
      obtain rfl | hz := List.mem_cons.mp hz
      · exact e
      · exact o.trans _ _ _ e (h1 z hz)
    | false =>
      have hyx : le y x = true := (o.total x y).elim (fun z => by rw [e] at z; cases z) id
      refine List.pairwise_cons.mpr ⟨fun z hz => ?_, ins_sorted o x l h2⟩
      rcases List.mem_cons.mp ((ins_perm le x l).mem_iff.mp hz) with rfl | hz
      · exact hyx
      · exact h1 z hz
theorem isort_sorted {le : α → α → Bool} (o : LeOk le) : ∀ l : List α, (isort le l).Pairwise (fun a b => le a b = true)
  | [] => List.Pairwise.nil
  | x :: l => ins_sorted o x _ (isort_sorted o l)
theorem sorted_one {le : α → α → Bool} (o : LeOk le) : ∀ {l m : List α}, l.Perm m → l.Pairwise (fun a b => le a b = true) → m.Pairwise (fun a b => le a b = true) → l = m
  | [], m, h, _, _ => (List.nil_perm.mp h).symm
  | a :: l, [], h, _, _ => absurd h.length_eq (by simp)
  | a :: l, b :: m, h, h1, h2 => by
    obtain ⟨a1, a2⟩ := List.pairwise_cons.mp h1
    obtain ⟨b1, b2⟩ := List.pairwise_cons.mp h2
    have e : a = b := by
      have ha : a ∈ b :: m := h.mem_iff.mp List.mem_cons_self
      have hb : b ∈ a :: l := h.mem_iff.mpr List.mem_cons_self
      obtain e | ha := List.mem_cons.mp ha
      · exact e
      · obtain e | hb := List.mem_cons.mp hb
        · exact e.symm
        · exact o.anti _ _ (a1 b hb) (b1 a ha)
    subst e
    rw [sorted_one o (List.Perm.cons_inv h) a2 b2]
theorem msort_eq {le : α → α → Bool} (o : LeOk le) (l : List α) : l.mergeSort le = isort le l :=
  sorted_one o ((List.mergeSort_perm l le).trans (isort_perm le l).symm) (List.pairwise_mergeSort o.trans (fun a b => by simpa using o.total a b) l) (isort_sorted o l)
end
/-! ### pairs of names, webs -/
abbrev Pr := Nat × Nat
def eqP (a b : Pr) : Bool := Nat.beq a.1 b.1 && Nat.beq a.2 b.2
def memP (x : Pr) : List Pr → Bool
  | [] => false
  | y :: l => eqP y x || memP x l
def putP (l : List Pr) (x : Pr) : List Pr := bif memP x l then l else l ++ [x]
theorem eqP_iff (a b : Pr) : eqP a b = true ↔ a = b := by
  obtain ⟨a1, a2⟩ := a
  obtain ⟨b1, b2⟩ := b
  simp [eqP]
theorem memP_iff (x : Pr) : ∀ l : List Pr, memP x l = true ↔ x ∈ l
  | [] => by simp [memP]
  | y :: l => by
    unfold memP
    rw [Bool.or_eq_true, eqP_iff, memP_iff x l, List.mem_cons]
    constructor
    · rintro (h | h)
      · exact .inl h.symm
      · exact .inr h
    · rintro (h | h)
      · exact .inl h.symm
      · exact .inr h
def eqW : List Pr → List Pr → Bool
  | [], [] => true
  | a :: l, b :: m => eqP a b && eqW l m
  | _, _ => false
theorem eqW_iff : ∀ a b : List Pr, eqW a b = true ↔ a = b
  | [], [] => by simp [eqW]
  | [], _ :: _ => by simp [eqW]
  | _ :: _, [] => by simp [eqW]
  | a :: l, b :: m => by
    unfold eqW
    rw [Bool.and_eq_true, eqP_iff, eqW_iff l m, List.cons.injEq]
def memW (x : List Pr) : List (List Pr) → Bool
  | [] => false
  | y :: l => eqW y x || memW x l
theorem memW_iff (x : List Pr) : ∀ l : List (List Pr), memW x l = true ↔ x ∈ l
  | [] => by simp [memW]
  | y :: l => by
    unfold memW
    rw [Bool.or_eq_true, eqW_iff, memW_iff x l, List.mem_cons]
    constructor
    · rintro (h | h)
      · exact .inl h.symm
      · exact .inr h
    · rintro (h | h)
      · exact .inl h.symm
      · exact .inr h
def putW (l : List (List Pr)) (x : List Pr) : List (List Pr) := bif memW x l then l else l ++ [x]
def dn (n : Nat) : D3 := .int (n : Nat)
def encP (p : Pr) : D3 := .tup [dn p.1, dn p.2]
def encW (w : List Pr) : D3 := .tup (w.map encP)
def encN (l : List Nat) : D3 := .tup (l.map dn)
/-! as keys -/
theorem nk_encP (p : Pr) : nk (encP p) = .tup [.num p.1, .num p.2] := by
  unfold encP dn
  simp [nk, nks]
theorem nk_inj {p q : Pr} (h : nk (encP p) = nk (encP q)) : p = q := by
  rw [nk_encP, nk_encP] at h
  simp at h
  exact Prod.ext (by omega) (by omega)
theorem key_encP (p : Pr) : (encP p).key = true := by
  unfold D3.key
  rw [nk_encP]
  simp [encP, dn, D3.isTup, D3.hk, D3.hks, NestedKey.depth, NestedKey.depthAll]
theorem hks_W : ∀ w : List Pr, D3.hks (w.map encP) = true
  | [] => by simp [D3.hks]
  | p :: w => by
    have := hks_W w
    simp [D3.hks, this, encP, dn, D3.hk]
theorem nk_encW (w : List Pr) : nk (encW w) = .tup (w.map fun p => nk (encP p)) := by
  unfold encW
  rw [nk, nks_map, List.map_map]
  rfl
theorem nkW_inj {a b : List Pr} (h : nk (encW a) = nk (encW b)) : a = b := by
  rw [nk_encW, nk_encW] at h
  injection h with h
  induction a generalizing b with
  | nil => cases b with
    | nil => rfl
    | cons _ _ => cases h
  | cons p a ih => cases b with
    | nil => cases h
    | cons q b =>
      injection h with h1 h2
      rw [nk_inj h1, ih h2]
theorem depth_W : ∀ w : List Pr, NestedKey.depthAll (w.map fun p => nk (encP p)) ≤ 1
  | [] => by simp [NestedKey.depthAll]
  | p :: w => by
    have := depth_W w
    rw [List.map_cons, NestedKey.depthAll, nk_encP]
    simp [NestedKey.depth, NestedKey.depthAll]
    omega
theorem key_encW (w : List Pr) : (encW w).key = true := by
  unfold D3.key
  rw [nk_encW, NestedKey.depth]
  have h1 := depth_W w
  have h2 := hks_W w
  rw [Bool.and_eq_true]; rw [Bool.and_eq_true]
  refine ⟨⟨rfl, ?_⟩, decide_eq_true (by omega)⟩
  unfold encW D3.hk
  exact h2
theorem nk_mem (p : Pr) (l : List Pr) : (nk (encP p) ∈ (l.map encP).map nk) ↔ p ∈ l := by
  rw [List.map_map, List.mem_map]
  exact ⟨fun ⟨q, hq, e⟩ => nk_inj e ▸ hq, fun h => ⟨p, h, rfl⟩⟩
theorem nkW_mem (p : List Pr) (l : List (List Pr)) : (nk (encW p) ∈ (l.map encW).map nk) ↔ p ∈ l := by
  rw [List.map_map, List.mem_map]
  exact ⟨fun ⟨q, hq, e⟩ => nkW_inj e ▸ hq, fun h => ⟨p, h, rfl⟩⟩
theorem nk_memP (p : Pr) (l : List Pr) : decide (nk (encP p) ∈ (l.map encP).map nk) = memP p l := by
  rw [Bool.eq_iff_iff, decide_eq_true_iff, nk_mem, memP_iff]
theorem nk_memW (p : List Pr) (l : List (List Pr)) : decide (nk (encW p) ∈ (l.map encW).map nk) = memW p l := by
  rw [Bool.eq_iff_iff, decide_eq_true_iff, nkW_mem, memW_iff]
theorem put_enc (l : List Pr) (p : Pr) : putK3 (l.map encP) (encP p) = (putP l p).map encP := by
  unfold putK3 putP
  have h := nk_memP p l
  by_cases c : nk (encP p) ∈ (l.map encP).map nk
  · rw [if_pos c, ← h, decide_eq_true c]
    rfl
  · rw [if_neg c, ← h, decide_eq_false c, cond_false, List.map_append]
    rfl
theorem putW_enc (l : List (List Pr)) (p : List Pr) : putK3 (l.map encW) (encW p) = (putW l p).map encW := by
  unfold putK3 putW
  have h := nk_memW p l
  by_cases c : nk (encW p) ∈ (l.map encW).map nk
  · rw [if_pos c, ← h, decide_eq_true c]
    rfl
  · rw [if_neg c, ← h, decide_eq_false c, cond_false, List.map_append]
    rfl
theorem puts_enc (ps : List Pr) : ∀ l : List Pr, (ps.map encP).foldl putK3 (l.map encP) = (ps.foldl putP l).map encP := by
  induction ps with
  | nil => intro l; rfl
  | cons p ps ih =>
    intro l
    rw [List.map_cons, List.foldl_cons, List.foldl_cons, put_enc, ih]
theorem putP_len (l : List Pr) (p : Pr) : (putP l p).length ≤ l.length + 1 := by
  unfold putP
  cases memP p l with
  | true => exact Nat.le_succ _
  | false => rw [cond_false, List.length_append]; exact Nat.le_refl _
theorem putsP_len (ps : List Pr) : ∀ l : List Pr, (ps.foldl putP l).length ≤ l.length + ps.length := by
  induction ps with
  | nil => intro l; exact Nat.le_refl _
  | cons p ps ih =>
    intro l
    have h1 := ih (putP l p)
    have h2 := putP_len l p
    rw [List.foldl_cons]; rw [List.length_cons]
    omega
/-! equality -/
theorem eqb_dn (a b : Nat) : (dn a).eqb (dn b) = decide (a = b) := by
  unfold D3.eqb dn
  simp [pd, PyData.eqv]
  rw [Bool.eq_iff_iff]
  simp
  omega
theorem eqb_encP (a b : Pr) : (encP a).eqb (encP b) = eqP a b := by
  unfold D3.eqb encP dn eqP
  simp [pd, pds, PyData.eqv, PyData.eqvAll]
  rw [Bool.eq_iff_iff]
  simp
  omega
theorem any_dn (x : Nat) (l : List Nat) : ((l.map dn).any fun z => z.eqb (dn x)) = decide (x ∈ l) := by
  rw [Bool.eq_iff_iff, decide_eq_true_iff, List.any_eq_true]
  constructor
  · rintro ⟨z, hz, e⟩
    obtain ⟨y, hy, rfl⟩ := List.mem_map.mp hz
    rw [eqb_dn, decide_eq_true_iff] at e
    exact e ▸ hy
  · intro h
    exact ⟨dn x, List.mem_map_of_mem h, by rw [eqb_dn]; simp⟩
theorem any_encP (p : Pr) : ∀ l : List Pr, ((l.map encP).any fun z => z.eqb (encP p)) = memP p l
  | [] => rfl
  | q :: l => by
    rw [List.map_cons, List.any_cons, any_encP p l, eqb_encP]
    rfl
theorem fit_dn (n : Nat) : (dn n).fit = true := by
  simp [D3.fit, dn, D3.ok, pd, SeqAt.shaped, PyData.canLay0, PyData.depth]
theorem oks_dn : ∀ l : List Nat, D3.oks (l.map dn) = true
  | [] => by simp [D3.oks]
  | n :: l => by simp [D3.oks, oks_dn l, dn, D3.ok]
theorem lay_dn : ∀ l : List Nat, PyData.canLayAll0 (pds (l.map dn)) = true
  | [] => by simp [pds, PyData.canLayAll0]
  | n :: l => by simp [pds, PyData.canLayAll0, lay_dn l, dn, pd, PyData.canLay0]
theorem dep_dn : ∀ l : List Nat, PyData.depthAll (pds (l.map dn)) = 0
  | [] => by simp [pds, PyData.depthAll]
  | n :: l => by simp [pds, PyData.depthAll, dep_dn l, dn, pd, PyData.depth]
theorem fit_encN (l : List Nat) : (encN l).fit = true := by
  simp [D3.fit, encN, D3.ok, pd, SeqAt.shaped, PyData.canLay0, PyData.depth, oks_dn, lay_dn, dep_dn]
theorem fit_lstN (l : List Nat) : (D3.lst (l.map dn)).fit = true := by
  simp [D3.fit, D3.ok, pd, SeqAt.shaped, PyData.canLay0, PyData.depth, oks_dn, lay_dn, dep_dn]
theorem fit_encP (p : Pr) : (encP p).fit = true := by
  simp [D3.fit, encP, dn, D3.ok, D3.oks, pd, pds, SeqAt.shaped, PyData.canLay0, PyData.canLayAll0, PyData.depth, PyData.depthAll]
theorem oks_encP : ∀ l : List Pr, D3.oks (l.map encP) = true
  | [] => by simp [D3.oks]
  | n :: l => by simp [D3.oks, oks_encP l, encP, dn, D3.ok]
theorem lay_encP : ∀ l : List Pr, PyData.canLayAll0 (pds (l.map encP)) = true
  | [] => by simp [pds, PyData.canLayAll0]
  | n :: l => by simp [pds, PyData.canLayAll0, lay_encP l, encP, dn, pd, PyData.canLay0]
theorem dep_encP : ∀ l : List Pr, PyData.depthAll (pds (l.map encP)) ≤ 1
  | [] => by simp [pds, PyData.depthAll]
  | n :: l => by
    have := dep_encP l
    simp [pds, PyData.depthAll, encP, dn, pd, PyData.depth]
    omega
theorem fit_encW (l : List Pr) : (encW l).fit = true := by
  have := dep_encP l
  simp [D3.fit, encW, D3.ok, pd, SeqAt.shaped, PyData.canLay0, PyData.depth, oks_encP, lay_encP]
  omega
theorem eqv_all_W : ∀ a b : List Pr, PyData.eqvAll (pds (a.map encP)) (pds (b.map encP)) = eqW a b
  | [], [] => by simp [pds, PyData.eqvAll, eqW]
  | [], _ :: _ => by simp [pds, PyData.eqvAll, eqW]
  | _ :: _, [] => by simp [pds, PyData.eqvAll, eqW]
  | a :: l, b :: m => by
    have h := eqb_encP a b
    unfold D3.eqb at h
    rw [List.map_cons, List.map_cons, pds, pds, PyData.eqvAll, h, eqv_all_W l m]
    rfl
theorem eqb_encW (a b : List Pr) : (encW a).eqb (encW b) = eqW a b := by
  unfold D3.eqb encW
  rw [pd, pd, PyData.eqv, eqv_all_W]
/-! order -/
def ltT : List Nat → List Nat → Bool
  | [], [] => false
  | [], _ :: _ => true
  | _ :: _, [] => false
  | x :: l, y :: m => Nat.blt x y || (!Nat.blt y x && ltT l m)
def tk (n : Nat) : Int ⊕ List Nat := .inl (n : Int)
theorem lex_tk : ∀ l m : List Nat, PyProof.Rows.lexLt PyProof.Rows.itemOrd (l.map tk) (m.map tk) = ltT l m
  | [], [] => rfl
  | [], _ :: _ => rfl
  | _ :: _, [] => rfl
  | x :: l, y :: m => by
    have b : ∀ a c : Nat, PyProof.Rows.itemOrd.blt (tk a) (tk c) = Nat.blt a c := fun a c => by
      show decide ((a : Int) < (c : Int)) = Nat.blt a c
      rw [Bool.eq_iff_iff]
      simp
    rw [List.map_cons, List.map_cons, PyProof.Rows.lex_cons, b, b, lex_tk l m]
    rfl
def tokP (p : Pr) : List Nat := [1, p.1, 1, p.2, 0]
def tokW : List Pr → List Nat
  | [] => [0]
  | p :: w => 1 :: (tokP p ++ tokW w)
theorem toks_P (p : Pr) : PySem.W.keyToks (pd (encP p)) = (tokP p).map tk := by
  unfold encP dn tokP tk
  simp [pd, pds, PySem.W.keyToks, PySem.W.keyToksAll]
theorem toks_W (w : List Pr) : PySem.W.keyToks (pd (encW w)) = (tokW w).map tk := by
  unfold encW
  rw [pd, PySem.W.keyToks]
  induction w with
  | nil =>
    unfold tokW tk
    simp [pds, PySem.W.keyToksAll]
  | cons p w ih =>
    rw [List.map_cons, pds, PySem.W.keyToksAll, toks_P, ih]
    rw [tokW, List.map_cons, List.map_append]
    rfl
def leP (a b : Pr) : Bool := !ltT (tokP b) (tokP a)
def leW (a b : List Pr) : Bool := !ltT (tokW b) (tokW a)
theorem dle_P (a b : Pr) : dle (encP a) (encP b) = leP a b := by
  show (!PyProof.Rows.lexLt PyProof.Rows.itemOrd (PySem.W.keyToks (pd (encP b))) (PySem.W.keyToks (pd (encP a)))) = _
  rw [toks_P, toks_P, lex_tk]
  rfl
theorem dle_W (a b : List Pr) : dle (encW a) (encW b) = leW a b := by
  show (!PyProof.Rows.lexLt PyProof.Rows.itemOrd (PySem.W.keyToks (pd (encW b))) (PySem.W.keyToks (pd (encW a)))) = _
  rw [toks_W, toks_W, lex_tk]
  rfl
theorem tk_inj : ∀ {l m : List Nat}, l.map tk = m.map tk → l = m
  | [], [], _ => rfl
  | [], _ :: _, h => by cases h
  | _ :: _, [], h => by cases h
  | x :: l, y :: m, h => by
    rw [List.map_cons] at h; rw [List.map_cons] at h
    injection h with h1 h2
    have : x = y := by
      injection h1 with h1
      omega
    rw [this, tk_inj h2]
theorem tokP_inj {a b : Pr} (h : tokP a = tokP b) : a = b := by
  unfold tokP at h
  injection h with _ h
  injection h with h1 h
  injection h with _ h
  injection h with h2 _
  exact Prod.ext h1 h2
theorem tokW_inj : ∀ {a b : List Pr}, tokW a = tokW b → a = b
  | [], [], _ => rfl
  | [], _ :: _, h => by
    unfold tokW at h
    injection h with h _
    cases h
  | _ :: _, [], h => by
    unfold tokW at h
    injection h with h _
    cases h
  | p :: a, q :: b, h => by
    unfold tokW at h
    injection h with _ h
    obtain ⟨h1, h2⟩ := List.append_inj h rfl
    rw [tokP_inj h1, tokW_inj h2]
theorem leT_ok : (∀ a b c : List Nat, (!ltT b a) = true → (!ltT c b) = true → (!ltT c a) = true) ∧ (∀ a b : List Nat, (!ltT b a) = true ∨ (!ltT a b) = true) ∧ ∀ a b : List Nat, (!ltT b a) = true → (!ltT a b) = true → a = b := by
  let O := PyProof.Rows.listOrd PyProof.Rows.itemOrd
  have b : ∀ a c : List Nat, O.blt (a.map tk) (c.map tk) = ltT a c := lex_tk
  refine ⟨fun x y z h1 h2 => ?_, fun x y => ?_, fun x y h1 h2 => ?_⟩
  · rw [Bool.not_eq_true'] at h1 h2 ⊢
    rw [← b] at h1 h2 ⊢
    exact PyProof.Rows.KeyOrd.kle_trans (O := O) h1 h2
  · rw [Bool.not_eq_true', Bool.not_eq_true', ← b, ← b]
    cases h : O.blt (y.map tk) (x.map tk) with
    | false => exact .inl rfl
    | true =>
      right
      cases h2 : O.blt (x.map tk) (y.map tk) with
      | false => rfl
      | true =>
        have := O.trans _ _ _ h h2
        rw [O.irrefl] at this
        cases this
  · rw [Bool.not_eq_true'] at h1 h2
    rw [← b] at h1 h2
    exact tk_inj (O.total _ _ h2 h1)
theorem leP_ok : LeOk leP := ⟨fun a b c => leT_ok.1 _ _ _, fun a b => leT_ok.2.1 _ _, fun a b h1 h2 => tokP_inj (leT_ok.2.2 _ _ h1 h2)⟩
theorem leW_ok : LeOk leW := ⟨fun a b c => leT_ok.1 _ _ _, fun a b => leT_ok.2.1 _ _, fun a b h1 h2 => tokW_inj (leT_ok.2.2 _ _ h1 h2)⟩
theorem sort_P (l : List Pr) : (l.map encP).mergeSort dle = (isort leP l).map encP := by
  rw [← msort_eq leP_ok]
  exact (List.map_mergeSort (fun a _ b _ => (dle_P a b).symm)).symm
theorem sort_W (l : List (List Pr)) : (l.map encW).mergeSort dle = (isort leW l).map encW := by
  rw [← msort_eq leW_ok]
  exact (List.map_mergeSort (fun a _ b _ => (dle_W a b).symm)).symm
theorem alike_P (a b : Pr) : PySem.W.alike (pd (encP a)) (pd (encP b)) = true := by
  unfold encP dn
  simp [pd, pds, PySem.W.alike, PySem.W.alikeAll]
theorem alike_all : ∀ a b : List Pr, PySem.W.alikeAll (pds (a.map encP)) (pds (b.map encP)) = true
  | [], _ => by simp [pds, PySem.W.alikeAll]
  | _ :: _, [] => by simp [pds, PySem.W.alikeAll]
  | a :: l, b :: m => by
    rw [List.map_cons, List.map_cons, pds, pds, PySem.W.alikeAll, alike_P, alike_all l m]
    rfl
theorem alike_W (a b : List Pr) : PySem.W.alike (pd (encW a)) (pd (encW b)) = true := by
  unfold encW
  rw [pd, pd, PySem.W.alike, alike_all]
theorem sorts_P (l : List Pr) (h : l.length ≤ 100000) : sorts (l.map encP) := by
  refine ⟨oks_encP l, fun d hd e he => ?_, .inl (.inl fun d hd => ?_), fun d hd => ?_, by rw [List.length_map]; exact h⟩
  · rw [List.map_map] at hd he
    obtain ⟨a, _, rfl⟩ := List.mem_map.mp hd
    obtain ⟨b, _, rfl⟩ := List.mem_map.mp he
    exact alike_P a b
  · rw [List.map_map] at hd
    obtain ⟨a, _, rfl⟩ := List.mem_map.mp hd
    refine ⟨pd (dn a.1), [pd (dn a.2)], ?_⟩
    show pd (encP a) = _
    unfold encP
    simp [pd, pds]
  · obtain ⟨a, _, rfl⟩ := List.mem_map.mp hd
    unfold encP dn
    simp [pd, pds, PyData.depth, PyData.depthAll]
theorem oks_W : ∀ l : List (List Pr), D3.oks (l.map encW) = true
  | [] => by simp [D3.oks]
  | n :: l => by simp [D3.oks, oks_W l, encW, D3.ok, oks_encP]
theorem sorts_W (l : List (List Pr)) (h : l.length ≤ 100000) (h0 : [] ∈ l) : sorts (l.map encW) := by
  refine ⟨oks_W l, fun d hd e he => ?_, .inr ⟨fun d hd => ?_, ?_⟩, fun d hd => ?_, by rw [List.length_map]; exact h⟩
  · rw [List.map_map] at hd he
    obtain ⟨a, _, rfl⟩ := List.mem_map.mp hd
    obtain ⟨b, _, rfl⟩ := List.mem_map.mp he
    exact alike_W a b
  · rw [List.map_map] at hd
    obtain ⟨a, _, rfl⟩ := List.mem_map.mp hd
    refine ⟨pds (a.map encP), ?_⟩
    show pd (encW a) = _
    unfold encW
    rw [pd]
  · rw [List.map_map]
    refine List.mem_map.mpr ⟨[], h0, ?_⟩
    show pd (encW []) = _
    unfold encW
    simp [pd, pds]
  · obtain ⟨a, _, rfl⟩ := List.mem_map.mp hd
    have := dep_encP a
    unfold encW
    rw [pd, PyData.depth]
    omega
end L3

set_option Elab.async false
set_option autoImplicit false
set_option linter.all false
set_option maxRecDepth 100000
/-! L3, part u: what the small defs and closed compute. -/
namespace L3
open PySem PySem.Spec L2

theorem ite_b {b c : Bool} {A B : Prop} (e : b = c) (h1 : c = true → A) (h2 : c = false → B) : if b = true then A else B := by
  subst e
  cases b with
  | true => rw [if_pos rfl]; exact h1 rfl
  | false => rw [if_neg Bool.false_ne_true]; exact h2 rfl
theorem rg_at {n i : Nat} {d : D3} (h : ((List.range n).map fun k => D3.int (k : Nat))[i]? = some d) : i < n ∧ d = dn i := by
  rw [List.getElem?_map] at h
  by_cases hi : i < n
  · rw [List.getElem?_range hi] at h
    exact ⟨hi, (Option.some.inj h).symm⟩
  · rw [List.getElem?_eq_none (by rw [List.length_range]; omega)] at h
    cases h
theorem fold_range {α : Type} (f : α → Nat → α) (a : α) (i : Nat) : (List.range (i + 1)).foldl f a = f ((List.range i).foldl f a) i := by
  rw [List.range_succ]; rw [List.foldl_append]
  rfl
/-! ### is_integer, is_within, check_number -/
def T_is_integer : List D3 → (R3 → Prop) → Prop := fun ds Q => ∃ i, ds = [.int i] ∧ Q (.im (.bl true))
theorem r_is_integer {ds : List D3} {Q : R3 → Prop} (h : T_is_integer ds Q) : t_is_integer { nx := fun _ => Q (.im .non), rt := fun r _ => Q r } (start3 N_is_integer ds) := by
  obtain ⟨i, rfl, q⟩ := h
  exact ⟨_, rfl, _, rfl, _, rfl, _, rfl, q⟩
def T_is_within : List D3 → (R3 → Prop) → Prop := fun ds Q => ∃ i a b, ds = [.int i, .int a, .int b] ∧ Q (.im (.bl (decide (a ≤ i) && decide (i ≤ b))))
theorem r_is_within {ds : List D3} {Q : R3 → Prop} (h : T_is_within ds Q) : t_is_within T_is_integer { nx := fun _ => Q (.im .non), rt := fun r _ => Q r } (start3 N_is_within ds) := by
  obtain ⟨i, a, b, rfl, q⟩ := h
  refine ⟨_, rfl, _, rfl, _, rfl, _, rfl, _, rfl, _, rfl, _, _, rfl, rfl, ?_⟩
  by_cases h : a ≤ i
  · rw [if_pos h]
    refine ⟨_, rfl, _, rfl, ?_⟩
    rw [decide_eq_true h, Bool.true_and] at q
    exact q
  · rw [if_neg h]
    rw [decide_eq_false h, Bool.false_and] at q
    exact q
def T_check_number : List D3 → (R3 → Prop) → Prop := fun ds Q => ∃ i a b, ds = [.int i, .int a, .int b] ∧ a ≤ i ∧ i ≤ b ∧ Q (.im .non)
theorem r_check_number {ds : List D3} {Q : R3 → Prop} (h : T_check_number ds Q) : t_check_number T_is_within { nx := fun _ => Q (.im .non), rt := fun r _ => Q r } (start3 N_check_number ds) := by
  obtain ⟨i, a, b, rfl, h1, h2, q⟩ := h
  refine ⟨_, rfl, _, rfl, _, rfl, _, rfl, _, rfl, _, rfl, _, _, _, rfl, _, rfl, ?_⟩
  rw [decide_eq_true h1, decide_eq_true h2]
  exact iteF q
/-! ### closed -/
def cl0 (m o : Nat) (f : List Pr) (t : Nat) : List Pr := bif memP (o, m) f && memP (m, t) f then putP f (o, t) else f
def cl1 (n m : Nat) (f : List Pr) (o : Nat) : List Pr := (List.range n).foldl (cl0 m o) f
def cl2 (n : Nat) (f : List Pr) (m : Nat) : List Pr := (List.range n).foldl (cl1 n m) f
def clF (n : Nat) (ps : List Pr) : List Pr := (List.range n).foldl (cl2 n) (ps.foldl putP [])
def cl (n : Nat) (ps : List Pr) : Option (List Pr) := bif (List.range n).any fun i => memP (i, i) (clF n ps) then none else some (isort leP (clF n ps))
theorem cl0_len (m o : Nat) (f : List Pr) (t : Nat) : (cl0 m o f t).length ≤ f.length + 1 := by
  unfold cl0
  cases memP (o, m) f && memP (m, t) f with
  | true => exact putP_len _ _
  | false => exact Nat.le_succ _
theorem fold_len {α : Type} {g : List α → Nat → List α} {k : Nat} (h : ∀ f i, (g f i).length ≤ f.length + k) : ∀ (is : List Nat) (f : List α), (is.foldl g f).length ≤ f.length + is.length * k
  | [], f => by simp
  | i :: is, f => by
    have h1 := fold_len h is (g f i)
    have h2 := h f i
    rw [List.foldl_cons, List.length_cons, Nat.succ_mul]
    omega
theorem cl1_len (n m : Nat) (f : List Pr) (o : Nat) : (cl1 n m f o).length ≤ f.length + n := by
  have := fold_len (cl0_len m o) (List.range n) f
  rw [List.length_range] at this
  unfold cl1
  omega
theorem cl2_len (n : Nat) (f : List Pr) (m : Nat) : (cl2 n f m).length ≤ f.length + n * n := by
  have := fold_len (cl1_len n m) (List.range n) f
  rw [List.length_range] at this
  unfold cl2
  omega
theorem clF_len (n : Nat) (ps : List Pr) (i : Nat) : ((List.range i).foldl (cl2 n) (ps.foldl putP [])).length ≤ ps.length + i * (n * n) := by
  have h1 := fold_len (cl2_len n) (List.range i) (ps.foldl putP [])
  have h2 := putsP_len ps []
  rw [List.length_range] at h1
  rw [List.length_nil] at h2
  omega
def optW : Option (List Pr) → D3
  | none => .non
  | some w => encW w
def T_closed : List D3 → (R3 → Prop) → Prop := fun ds Q => ∃ (n : Nat) (ps : List Pr), ds = [dn n, encW ps] ∧ n ≤ 8 ∧ ps.length ≤ 1000 ∧ Q (.im (optW (cl n ps)))
def stC (n : Nat) (ps f : List Pr) (a b c e : Option R3) : Rho := [some (.im (dn n)), some (.im (encW ps)), some (.dc (f.map encP)), a, b, c, e, none]
theorem in_enc (p : Pr) (l : List Pr) : (false ^^ decide (nk (encP p) ∈ (l.map encP).map nk)) = memP p l := by rw [Bool.false_xor, nk_memP]
theorem r_closed {ds : List D3} {Q : R3 → Prop} (h : T_closed ds Q) : t_closed { nx := fun _ => Q (.im .non), rt := fun r _ => Q r } (start3 N_closed ds) := by
  obtain ⟨n, ps, rfl, hn, hp, q⟩ := h
  refine ⟨_, rfl, ps.map encP, rfl, by rw [List.length_map]; omega, fun k hk => ?_, ?_⟩
  · obtain ⟨p, _, rfl⟩ := List.mem_map.mp hk
    exact key_encP p
  have e := puts_enc ps []
  rw [List.map_nil] at e
  rw [e]
  have hnn : n * n ≤ 64 := Nat.mul_le_mul hn hn
  -- for middle
  refine ⟨_, rfl, n, rfl, by omega, fun i ρ => ∃ a b c e, ρ = stC n ps ((List.range i).foldl (cl2 n) (ps.foldl putP [])) a b c e, ⟨_, _, _, _, rfl⟩, ?_, ?_⟩
  · rintro i d ρ hd ⟨a, b, c, e, rfl⟩
    obtain ⟨hi, rfl⟩ := rg_at hd
    have l1 := clF_len n ps i
    have l1' : i * (n * n) ≤ 7 * 64 := Nat.mul_le_mul (by omega) hnn
    generalize hf : (List.range i).foldl (cl2 n) (ps.foldl putP []) = f at l1
    -- for one
    refine ⟨_, rfl, n, rfl, by omega, fun j ρ => ∃ b c, ρ = stC n ps ((List.range j).foldl (cl1 n i) f) (some (.im (dn i))) b c e, ⟨_, _, rfl⟩, ?_, ?_⟩
    · rintro j d ρ hd ⟨b, c, rfl⟩
      obtain ⟨hj, rfl⟩ := rg_at hd
      have l2 := fold_len (cl1_len n i) (List.range j) f
      rw [List.length_range] at l2
      have l2' : j * n ≤ 7 * 8 := Nat.mul_le_mul (by omega) hn
      generalize hf2 : (List.range j).foldl (cl1 n i) f = f2 at l2
      -- for other
      refine ⟨_, rfl, n, rfl, by omega, fun k ρ => ∃ c, ρ = stC n ps ((List.range k).foldl (cl0 i j) f2) (some (.im (dn i))) (some (.im (dn j))) c e, ⟨_, rfl⟩, ?_, ?_⟩
      · rintro k d ρ hd ⟨c, rfl⟩
        obtain ⟨hk, rfl⟩ := rg_at hd
        have l3 := fold_len (cl0_len i j) (List.range k) f2
        rw [List.length_range] at l3
        generalize hf3 : (List.range k).foldl (cl0 i j) f2 = f3 at l3
        refine ⟨_, rfl, _, rfl, _, rfl, _, rfl, by show 2 ≤ 100000; decide, _, rfl, key_encP (j, i), _, rfl, ?_⟩
        refine ite_b (in_enc (j, i) f3) (fun h1 => ?_) (fun h1 => ?_)
        · refine ⟨_, rfl, _, rfl, _, rfl, _, rfl, by show 2 ≤ 100000; decide, _, rfl, key_encP (i, k), _, rfl, ?_⟩
          refine ite_b (in_enc (i, k) f3) (fun h2 => ?_) (fun h2 => ?_)
          · have e0 : cl0 i j f3 k = putP f3 (j, k) := by
              unfold cl0
              rw [h1, h2]
              rfl
            refine ⟨⟨_, rfl⟩, _, rfl, _, rfl, _, rfl, _, rfl, by show 2 ≤ 100000; decide, _, f3.map encP, rfl, key_encP (j, k), rfl, by rw [List.length_map]; omega, some (.im (dn k)), ?_⟩
            rw [fold_range, hf3, e0]
            unfold stC
            rw [← put_enc]
            rfl
          · have e0 : cl0 i j f3 k = f3 := by
              unfold cl0
              rw [h1, h2]
              rfl
            refine ⟨some (.im (dn k)), ?_⟩
            rw [fold_range, hf3, e0]
            rfl
        · have e0 : cl0 i j f3 k = f3 := by
            unfold cl0
            rw [h1]
            rfl
          refine ⟨some (.im (dn k)), ?_⟩
          rw [fold_range, hf3, e0]
          rfl
      · rintro ρ ⟨c, rfl⟩
        rw [List.length_map]; rw [List.length_range]
        refine ⟨some (.im (dn j)), c, ?_⟩
        rw [fold_range, hf2]
        rfl
    · rintro ρ ⟨b, c, rfl⟩
      rw [List.length_map]; rw [List.length_range]
      refine ⟨some (.im (dn i)), b, c, e, ?_⟩
      rw [fold_range, hf]
      rfl
  · rintro ρ ⟨a, b, c, e, rfl⟩
    rw [List.length_map]; rw [List.length_range]
    have lF := clF_len n ps n
    have lF' : n * (n * n) ≤ 8 * 64 := Nat.mul_le_mul hn hnn
    have eF : (List.range n).foldl (cl2 n) (ps.foldl putP []) = clF n ps := rfl
    rw [eF] at lF ⊢
    generalize hfF : clF n ps = f at lF
    refine ⟨_, rfl, n, rfl, by rw [List.length_map, List.length_range]; omega, fun d => match d with | .int i => some (.bl (memP (i.toNat, i.toNat) f)) | _ => none, fun d hd => ?_, ?_⟩
    · obtain ⟨i, hi, rfl⟩ := List.mem_map.mp hd
      refine ⟨rfl, rfl, _, rfl, _, rfl, _, rfl, _, rfl, by show 2 ≤ 100000; decide, _, rfl, key_encP (i, i), rfl, _, rfl, ?_⟩
      show some (D3.bl (memP ((i : Int).toNat, (i : Int).toNat) f)) = some (D3.bl (false ^^ decide (nk (encP (i, i)) ∈ (f.map encP).map nk)))
      rw [in_enc, Int.toNat_natCast]
    · refine ⟨(List.range n).map fun i => memP (i, i) f, ?_, _, rfl, ?_⟩
      · show some _ = some _
        congr 1
        rw [List.filterMap_map, List.map_map]
        have : ∀ l : List Nat, l.filterMap ((fun d : D3 => match d with | .int i => some (D3.bl (memP (i.toNat, i.toNat) f)) | _ => none) ∘ fun k : Nat => D3.int (k : Nat)) = l.map (D3.bl ∘ fun i => memP (i, i) f) := fun l => by
          induction l with
          | nil => rfl
          | cons i l ih =>
            rw [List.filterMap_cons]
            show D3.bl (memP ((i : Int).toNat, (i : Int).toNat) f) :: _ = _
            rw [ih, Int.toNat_natCast]
            rfl
        exact this _
      · have ea : ((List.range n).map fun i => memP (i, i) f).any id = (List.range n).any fun i => memP (i, i) f := by rw [List.any_map]; rfl
        refine ite_b ea (fun h1 => ?_) (fun h1 => ?_)
        · have : cl n ps = none := by unfold cl; rw [hfF, h1]; rfl
          rw [this] at q
          exact q
        · have : cl n ps = some (isort leP f) := by unfold cl; rw [hfF, h1]; rfl
          rw [this] at q
          refine ⟨_, rfl, f.map encP, rfl, sorts_P f (by omega), ?_⟩
          rw [sort_P]
          exact q
end L3

set_option Elab.async false
set_option autoImplicit false
set_option linter.all false
set_option maxRecDepth 100000
/-! L3, part n: the webs, natively; both sides give the same. -/
namespace L3
open PySem PySem.Spec L2

/-! ### every_web -/
def prN (i : Nat) : List Nat → List Pr
  | [] => []
  | j :: l => bif Nat.beq i j then prN i l else (i, j) :: prN i l
def prsN (n : Nat) : List Pr := (List.range n).flatMap fun i => prN i (List.range n)
structure EvS where
  f : List (List Pr)
  w : List (List Pr)
  ok : Bool
def evIn (n : Nat) (b : List Pr) (s : EvS) (p : Pr) : EvS :=
  bif memP p b || memP (p.2, p.1) b then s else
    match cl n (b ++ [p]) with
    | none => ⟨s.f, s.w, false⟩
    | some m => bif memW m s.f then s else ⟨s.f ++ [m], s.w ++ [m], s.ok && Nat.blt b.length 100 && Nat.blt s.f.length 1000 && Nat.blt s.w.length 1000⟩
/-- the last, and what stands ahead of it -/
def popL {α : Type} : List α → Option (List α × α)
  | [] => none
  | [x] => some ([], x)
  | x :: y :: l => match popL (y :: l) with
    | none => none
    | some (a, z) => some (x :: a, z)
def evStep (n : Nat) (s : EvS) : EvS :=
  match popL s.w with
  | none => s
  | some (w, b) => (prsN n).foldl (evIn n b) ⟨s.f, w, s.ok && Nat.blt b.length 100⟩
def evRun (n : Nat) : Nat → EvS
  | 0 => ⟨[[]], [[]], true⟩
  | k + 1 => evStep n (evRun n k)
def evTurns : Nat → Nat
  | 1 => 1
  | 2 => 3
  | 3 => 19
  | _ => 219
def evP (n : Nat) : List (List Pr) := (isort leW (evRun n (evTurns n)).f).map (isort leP)
/-! ### _law_every -/
def addS (rows : List (List Nat)) : List (List Nat) := rows.map (· ++ [0]) ++ rows.map (· ++ [1]) ++ rows.map (· ++ [2])
def sidesM (name : Nat) : List (List Nat) := (List.range name).foldl (fun r _ => addS r) [[]]
def sAt (row : List Nat) (i : Nat) : Nat := row.getD i 9
def badP (row : List Nat) (p : Pr) : Bool := (Nat.beq (sAt row p.2) 0 && !Nat.beq (sAt row p.1) 0) || (Nat.beq (sAt row p.1) 1 && !Nat.beq (sAt row p.2) 1)
def badQ (bs : List Pr) (row : List Nat) (o t : Nat) : Bool := Nat.beq (sAt row o) 0 && (Nat.beq (sAt row t) 1 && !memP (o, t) bs)
def canS (bs : List Pr) (name : Nat) (row : List Nat) : Bool := !(bs.any (badP row)) && !((List.range name).any fun o => (List.range name).any fun t => badQ bs row o t)
def putIn (bs : List Pr) (name : Nat) (row : List Nat) : List Pr :=
  isort leP (bs ++ (((List.range name).filter fun o => Nat.beq (sAt row o) 0).map (fun o => (o, name)) ++ ((List.range name).filter fun o => Nat.beq (sAt row o) 1).map fun o => (name, o)))
def lvNext (name : Nat) (found : List (List Pr)) : List (List Pr) := found.flatMap fun bs => ((sidesM name).filter (canS bs name)).map (putIn bs name)
def lvRun : Nat → List (List Pr)
  | 0 => [[]]
  | k + 1 => isort leW (lvNext (k + 1) (lvRun k))
/-- _law_every n, n at least 1 -/
def lv (n : Nat) : List (List Pr) := lvRun (n - 1)
def eqWs : List (List Pr) → List (List Pr) → Bool
  | [], [] => true
  | a :: l, b :: m => eqW a b && eqWs l m
  | _, _ => false
theorem eqWs_iff : ∀ a b : List (List Pr), eqWs a b = true → a = b
  | [], [], _ => rfl
  | [], _ :: _, h => by cases h
  | _ :: _, [], h => by cases h
  | a :: l, b :: m, h => by
    unfold eqWs at h
    rw [Bool.and_eq_true, eqW_iff] at h
    rw [h.1, eqWs_iff l m h.2]
def evOk (n : Nat) : Bool := (evRun n (evTurns n)).ok && (match (evRun n (evTurns n)).w with | [] => true | _ => false) && memW [] (evRun n (evTurns n)).f && Nat.blt (evRun n (evTurns n)).f.length 1000 && ((evRun n (evTurns n)).f.all fun b => Nat.blt b.length 1000) && eqWs (evP n) (lv n)
set_option maxHeartbeats 0 in
theorem evOk1 : evOk 1 = true := by decide +kernel
set_option maxHeartbeats 0 in
theorem evOk2 : evOk 2 = true := by decide +kernel
set_option maxHeartbeats 0 in
theorem evOk3 : evOk 3 = true := by decide +kernel
end L3

set_option Elab.async false
set_option autoImplicit false
set_option linter.all false
set_option maxRecDepth 100000
namespace L3
open PySem PySem.Spec L2
set_option maxHeartbeats 0 in
theorem evOk4 : evOk 4 = true := by decide +kernel
end L3

set_option Elab.async false
set_option autoImplicit false
set_option linter.all false
set_option maxRecDepth 100000
/-! L3, part v: what the webs' defs compute. -/
namespace L3
open PySem PySem.Spec L2

/-! ### comprehensions over encoded lists -/
section
variable {α : Type} {enc : α → D3}
open Classical in
noncomputable def invF (enc : α → D3) (F : α → Option D3) : D3 → Option D3 := fun d => if h : ∃ a, d = enc a then F h.choose else none
theorem invF_at (inj : ∀ a b, enc a = enc b → a = b) (F : α → Option D3) (a : α) : invF enc F (enc a) = F a := by
  have h : ∃ b, enc a = enc b := ⟨a, rfl⟩
  unfold invF
  rw [dif_pos h]
  exact congrArg F (inj _ _ h.choose_spec).symm
theorem invF_map (inj : ∀ a b, enc a = enc b → a = b) (F : α → Option D3) : ∀ l : List α, (l.map enc).filterMap (invF enc F) = l.filterMap F
  | [] => rfl
  | a :: l => by rw [List.map_cons, List.filterMap_cons, List.filterMap_cons, invF_at inj, invF_map inj F l]
def ifF (t : α → Bool) (e : α → D3) : α → Option D3 := fun a => if t a = true then some (e a) else none
theorem ifF_map (t : α → Bool) (e : α → D3) : ∀ l : List α, l.filterMap (ifF t e) = (l.filter t).map e
  | [] => rfl
  | a :: l => by
    have ih := ifF_map t e l
    unfold ifF at ih ⊢
    rw [List.filterMap_cons, List.filter_cons]
    cases t a with
    | true => simp [ih]
    | false => simp [ih]
theorem comp_enc (inj : ∀ a b, enc a = enc b → a = b) (t : α → Bool) (e : α → D3) {l : List α} {ds : List D3} {tg3 : TG3} {tt : TT3} {te : TE3} {vs : List Nat} {ρ1 : Rho} {Q : R3 → Rho → Prop} (hds : ds = l.map enc) (hl : l.length ≤ 100000)
    (h : ∀ a ∈ l, compTurn tg3 tt te vs ρ1 (invF enc (ifF t e)) (enc a)) (q : Q (.ls ((l.filter t).map e)) ρ1) : comp3 ds tg3 tt te vs ρ1 Q := by
  subst hds
  refine ⟨by rw [List.length_map]; exact hl, invF enc (ifF t e), fun d hd => ?_, ?_⟩
  · obtain ⟨a, ha, rfl⟩ := List.mem_map.mp hd
    exact h a ha
  · rw [invF_map inj, ifF_map]
    exact q
theorem inv_yes (inj : ∀ a b, enc a = enc b → a = b) {t : α → Bool} {e : α → D3} {a : α} {y : D3} (h : t a = true) (he : e a = y) : invF enc (ifF t e) (enc a) = some y := by
  rw [invF_at inj]
  unfold ifF
  rw [if_pos h, he]
theorem inv_no (inj : ∀ a b, enc a = enc b → a = b) {t : α → Bool} {e : α → D3} {a : α} (h : t a = false) : invF enc (ifF t e) (enc a) = none := by
  rw [invF_at inj]
  unfold ifF
  rw [if_neg (by rw [h]; decide)]
end
theorem dn_inj : ∀ a b, dn a = dn b → a = b := fun a b h => by
  unfold dn at h
  injection h with h
  omega
theorem encP_inj : ∀ a b, encP a = encP b → a = b := fun a b h => nk_inj (congrArg nk h)
theorem encW_inj : ∀ a b, encW a = encW b → a = b := fun a b h => nkW_inj (congrArg nk h)
theorem map_dn_inj : ∀ {a b : List Nat}, a.map dn = b.map dn → a = b
  | [], [], _ => rfl
  | [], _ :: _, h => by cases h
  | _ :: _, [], h => by cases h
  | x :: a, y :: b, h => by
    rw [List.map_cons] at h; rw [List.map_cons] at h
    injection h with h1 h2
    rw [dn_inj _ _ h1, map_dn_inj h2]
theorem encN_inj : ∀ a b, encN a = encN b → a = b := fun a b h => by
  unfold encN at h
  injection h with h
  exact map_dn_inj h
theorem filter_true {α : Type} (l : List α) : l.filter (fun _ => true) = l := List.filter_eq_self.mpr fun _ _ => rfl
theorem rg_dn (n : Nat) : ((List.range n).map fun k => D3.int (k : Nat)) = (List.range n).map dn := rfl
theorem map_at {α : Type} {enc : α → D3} {l : List α} {i : Nat} {d : D3} (h : (l.map enc)[i]? = some d) : ∃ a, l[i]? = some a ∧ d = enc a := by
  rw [List.getElem?_map] at h
  cases e : l[i]? with
  | none =>
    rw [e] at h
    cases h
  | some a => rw [e] at h; exact ⟨a, rfl, (Option.some.inj h).symm⟩
/-! ### Web.keep, RawWeb.__init__, raw_web -/
def ahd (bs : List Pr) (x : Nat) : List Nat := (bs.filter fun p => decide (p.2 = x)).map (·.1)
def ltr (bs : List Pr) (x : Nat) : List Nat := (bs.filter fun p => decide (p.1 = x)).map (·.2)
def fldW (n : Nat) (bs : List Pr) : FS := [(("many" : Str), dn n), ("befores", encW bs), ("ahead", .lst ((List.range n).map fun x => encN (ahd bs x))), ("later", .lst ((List.range n).map fun x => encN (ltr bs x)))]
def webD (n : Nat) (bs : List Pr) : D3 := .web n (encW bs) ((List.range n).map fun x => encN (ahd bs x)) ((List.range n).map fun x => encN (ltr bs x))
def T_keep : FS → List D3 → (FS → Prop) → Prop := fun fs ds Q => ∃ n bs, fs = [] ∧ ds = [dn n, encW bs] ∧ n ≤ 1000 ∧ bs.length ≤ 1000 ∧ Q (fldW n bs)
theorem r_keep {p : Addr} {fs : FS} {ds : List D3} {Q : FS → Prop} (h : T_keep fs ds Q) : t_Web_keep { nx := fun ρ => ∃ fs', ρ[0]? = some (some (.ob p fs')) ∧ Q fs', rt := fun _ _ => False } (startX N_Web_keep (.ob p fs) ds) := by
  obtain ⟨n, bs, rfl, rfl, hn, hb, q⟩ := h
  refine ⟨_, rfl, _, p, [], rfl, rfl, by show 0 < 1000; decide, ?_⟩
  refine ⟨_, rfl, _, p, _, rfl, rfl, by show 1 < 1000; decide, ?_⟩
  refine ⟨_, rfl, n, rfl, comp_enc (l := List.range n) dn_inj (fun _ => true) (fun x => encN (ahd bs x)) rfl (by rw [List.length_range]; omega) (fun x hx => ?_) ?_⟩
  · refine ⟨rfl, rfl, _, rfl, bs.map encP, rfl, comp_enc encP_inj (fun p => decide (p.2 = x)) (fun p => dn p.1) rfl (by omega) (fun b hb => ?_) ⟨rfl, _, rfl, ?_⟩⟩
    · refine ⟨_, _, rfl, rfl, _, rfl, _, rfl, fit_dn _, fit_dn _, _, rfl, rfl, ?_⟩
      refine ite_b ((Bool.false_xor _).trans (eqb_dn b.2 x)) (fun h => ⟨_, rfl, rfl, _, rfl, inv_yes encP_inj h rfl⟩) fun h => inv_no encP_inj h
    · refine inv_yes dn_inj rfl ?_
      unfold ahd encN
      rw [List.map_map]
      rfl
  · rw [filter_true]
    refine ⟨_, p, _, rfl, rfl, by show 2 < 1000; decide, ?_⟩
    refine ⟨_, rfl, n, rfl, comp_enc (l := List.range n) dn_inj (fun _ => true) (fun x => encN (ltr bs x)) rfl (by rw [List.length_range]; omega) (fun x hx => ?_) ?_⟩
    · refine ⟨rfl, rfl, _, rfl, bs.map encP, rfl, comp_enc encP_inj (fun p => decide (p.1 = x)) (fun p => dn p.2) rfl (by omega) (fun b hb => ?_) ⟨rfl, _, rfl, ?_⟩⟩
      · refine ⟨_, _, rfl, rfl, _, rfl, _, rfl, fit_dn _, fit_dn _, _, rfl, rfl, ?_⟩
        refine ite_b ((Bool.false_xor _).trans (eqb_dn b.1 x)) (fun h => ⟨_, rfl, rfl, _, rfl, inv_yes encP_inj h rfl⟩) fun h => inv_no encP_inj h
      · refine inv_yes dn_inj rfl ?_
        unfold ltr encN
        rw [List.map_map]
        rfl
    · rw [filter_true]
      exact ⟨_, p, _, rfl, rfl, by show 3 < 1000; decide, _, rfl, q⟩
theorem r_init {p : Addr} {fs : FS} {ds : List D3} {Q : FS → Prop} (h : T_keep fs ds Q) : t_RawWeb_init T_keep { nx := fun ρ => ∃ fs', ρ[0]? = some (some (.ob p fs')) ∧ Q fs', rt := fun _ _ => False } (startX N_RawWeb_init (.ob p fs) ds) := by
  obtain ⟨n, bs, rfl, rfl, hn, hb, q⟩ := h
  exact ⟨⟨p, rfl⟩, _, rfl, _, rfl, _, rfl, _, rfl, p, [], rfl, n, bs, rfl, rfl, hn, hb, _, rfl, q⟩
def T_raw_web : List D3 → (R3 → Prop) → Prop := fun ds Q => ∃ n bs, ds = [dn n, encW bs] ∧ n ≤ 1000 ∧ bs.length ≤ 1000 ∧ Q (.im (webD n (isort leP bs)))
theorem isort_len {α : Type} (le : α → α → Bool) (l : List α) : (isort le l).length = l.length := (isort_perm le l).length_eq
theorem r_raw_web {ds : List D3} {Q : R3 → Prop} (h : T_raw_web ds Q) : t_raw_web T_keep { nx := fun _ => Q (.im .non), rt := fun r _ => Q r } (start3 N_raw_web ds) := by
  obtain ⟨n, bs, rfl, hn, hb, q⟩ := h
  refine ⟨_, rfl, _, rfl, _, rfl, bs.map encP, rfl, sorts_P bs (by omega), ?_⟩
  rw [sort_P]
  exact ⟨_, rfl, n, isort leP bs, rfl, rfl, hn, by rw [isort_len]; exact hb, _, _, _, _, rfl, q⟩
/-! ### free_names -/
def freeB (bs : List Pr) (row : List Nat) (x : Nat) : Bool := !decide (x ∈ row) && (ahd bs x).all fun y => decide (y ∈ row)
def freeM (n : Nat) (bs : List Pr) (row : List Nat) : List Nat := (List.range n).filter (freeB bs row)
def T_free_names : List D3 → (R3 → Prop) → Prop := fun ds Q => ∃ n bs row, ds = [webD n bs, encN row] ∧ n ≤ 1000 ∧ bs.length ≤ 1000 ∧ Q (.ls ((freeM n bs row).map dn))
theorem notin_dn (x : Nat) (l : List Nat) : (true ^^ ((l.map dn).any fun z => z.eqb (dn x))) = !decide (x ∈ l) := by rw [any_dn, Bool.true_xor]
theorem in_dn (x : Nat) (l : List Nat) : (false ^^ ((l.map dn).any fun z => z.eqb (dn x))) = decide (x ∈ l) := by rw [any_dn, Bool.false_xor]
theorem filter_range {t : Nat → Bool} (i : Nat) : (List.range (i + 1)).filter t = (List.range i).filter t ++ if t i = true then [i] else [] := by
  rw [List.range_succ, List.filter_append]
  congr 1
  cases h : t i <;> simp [h]
theorem filter_range_len (t : Nat → Bool) (i : Nat) : ((List.range i).filter t).length ≤ i := by
  have := List.length_filter_le t (List.range i)
  rwa [List.length_range] at this
theorem ahd_len (bs : List Pr) (x : Nat) : (ahd bs x).length ≤ bs.length := by
  unfold ahd
  rw [List.length_map]
  exact List.length_filter_le _ _
theorem ltr_len (bs : List Pr) (x : Nat) : (ltr bs x).length ≤ bs.length := by
  unfold ltr
  rw [List.length_map]
  exact List.length_filter_le _ _
theorem at_range {α : Type} {n i : Nat} (f : Nat → α) (h : i < n) : atI ((List.range n).map f) (i : Int) = some (f i) := by
  refine atI0 ?_
  rw [List.getElem?_map, List.getElem?_range h]
  rfl
theorem r_free_names {ds : List D3} {Q : R3 → Prop} (h : T_free_names ds Q) : t_free_names { nx := fun _ => Q (.im .non), rt := fun r _ => Q r } (start3 N_free_names ds) := by
  obtain ⟨n, bs, row, rfl, hn, hb, q⟩ := h
  refine ⟨by show 0 ≤ 100000; decide, ?_⟩
  refine ⟨_, rfl, n, rfl, by omega, fun i ρ => ∃ a, ρ = [some (.im (webD n bs)), some (.im (encN row)), some (.ls (((List.range i).filter (freeB bs row)).map dn)), a, none], ⟨_, rfl⟩, ?_, ?_⟩
  · rintro i d ρ hd ⟨a, rfl⟩
    obtain ⟨hi, rfl⟩ := rg_at hd
    have hl := filter_range_len (freeB bs row) i
    refine ⟨_, rfl, _, rfl, fit_dn i, fit_encN row, _, rfl, ?_⟩
    refine ite_b (notin_dn i row) (fun h1 => ?_) (fun h1 => ?_)
    · refine ⟨_, rfl, _, rfl, _, at_range (fun x => encN (ahd bs x)) hi, _, rfl, comp_enc (l := ahd bs i) dn_inj (fun _ => true) (fun y => .bl (decide (y ∈ row))) rfl (by have := ahd_len bs i; omega) (fun y hy => ?_) ?_⟩
      · refine ⟨rfl, rfl, _, rfl, _, rfl, fit_dn y, fit_encN row, rfl, _, rfl, inv_yes dn_inj rfl ?_⟩
        rw [in_dn]
      · rw [filter_true]
        refine ⟨(ahd bs i).map fun y => decide (y ∈ row), by rw [List.map_map]; rfl, _, rfl, ?_⟩
        have ea : (((ahd bs i).map fun y => decide (y ∈ row)).all id) = (ahd bs i).all fun y => decide (y ∈ row) := by rw [List.all_map]; rfl
        refine ite_b ea (fun h2 => ?_) (fun h2 => ?_)
        · have e0 : freeB bs row i = true := by unfold freeB; rw [h1, h2]; rfl
          refine ⟨⟨_, rfl⟩, _, rfl, _, _, rfl, rfl, by rw [List.length_map]; omega, some (.im (dn i)), ?_⟩
          rw [filter_range, if_pos e0, List.map_append]
          rfl
        · have e0 : freeB bs row i = false := by unfold freeB; rw [h2, Bool.and_false]
          refine ⟨some (.im (dn i)), ?_⟩
          rw [filter_range, if_neg (by rw [e0]; exact Bool.false_ne_true), List.append_nil]
          rfl
    · have e0 : freeB bs row i = false := by unfold freeB; rw [h1, Bool.false_and]
      refine ⟨some (.im (dn i)), ?_⟩
      rw [filter_range, if_neg (by rw [e0]; exact Bool.false_ne_true), List.append_nil]
      rfl
  · rintro ρ ⟨a, rfl⟩
    rw [List.length_map]; rw [List.length_range]
    exact ⟨_, rfl, rfl, q⟩
end L3

set_option Elab.async false
set_option autoImplicit false
set_option linter.all false
set_option maxRecDepth 100000
/-! L3, part w: every_web, webs_up_to, all_orders. -/
namespace L3
open PySem PySem.Spec L2

theorem popL_some {α : Type} : ∀ {l a : List α} {z : α}, popL l = some (a, z) → l = a ++ [z]
  | [], a, z, h => by cases h
  | [x], a, z, h => by
    unfold popL at h
    cases h
    rfl
  | x :: y :: l, a, z, h => by
    unfold popL at h
    cases e : popL (y :: l) with
    | none =>
      rw [e] at h
      cases h
    | some p =>
      obtain ⟨b, w⟩ := p
      rw [e] at h
      cases h
      rw [popL_some e]
      rfl
theorem popL_none {α : Type} : ∀ {l : List α}, popL l = none → l = []
  | [], _ => rfl
  | [x], h => by unfold popL at h; cases h
  | x :: y :: l, h => by
    unfold popL at h
    cases e : popL (y :: l) with
    | none => have := popL_none e; cases this
    | some p => rw [e] at h; cases h
theorem prI_enc (i : Nat) : ∀ l : List Nat, prI i l = (prN i l).map encP
  | [] => rfl
  | j :: l => by
    have ih := prI_enc i l
    unfold prI at ih ⊢
    unfold prN
    by_cases h : i = j
    · rw [List.filter_cons_of_neg (by simp [h]), ih]
      have : Nat.beq i j = true := by simp [h]
      rw [this]
      rfl
    · rw [List.filter_cons_of_pos (by simp [h]), List.map_cons, ih]
      have : Nat.beq i j = false := by
        cases z : Nat.beq i j with
        | false => rfl
        | true => exact absurd (Nat.eq_of_beq_eq_true z) h
      rw [this]
      rfl
theorem prs_enc (n : Nat) : prsOf n = (prsN n).map encP := by
  unfold prsOf prsN
  rw [List.map_flatMap]
  congr 1
  funext i
  exact prI_enc i _
theorem evIn_ok {n : Nat} {b : List Pr} {s : EvS} {p : Pr} (h : (evIn n b s p).ok = true) : s.ok = true := by
  unfold evIn at h
  cases c : memP p b || memP (p.2, p.1) b with
  | true => rw [c] at h; exact h
  | false =>
    rw [c, cond_false] at h
    cases e : cl n (b ++ [p]) with
    | none =>
      rw [e] at h
      cases h
    | some m =>
      rw [e] at h
      have h2 : (bif memW m s.f then s else ⟨s.f ++ [m], s.w ++ [m], s.ok && Nat.blt b.length 100 && Nat.blt s.f.length 1000 && Nat.blt s.w.length 1000⟩ : EvS).ok = true := h
      cases d : memW m s.f with
      | true =>
        rw [d] at h2
        exact h2
      | false =>
        rw [d] at h2
        simp only [cond_false, Bool.and_eq_true] at h2
        exact h2.1.1.1
theorem evFold_ok {n : Nat} {b : List Pr} : ∀ {l : List Pr} {s : EvS}, (l.foldl (evIn n b) s).ok = true → s.ok = true
  | [], _, h => h
  | p :: l, s, h => evIn_ok (evFold_ok (l := l) h)
theorem evStep_ok {n : Nat} {s : EvS} (h : (evStep n s).ok = true) : s.ok = true := by
  unfold evStep at h
  cases e : popL s.w with
  | none => rw [e] at h; exact h
  | some p =>
    obtain ⟨w, b⟩ := p
    rw [e] at h
    have := evFold_ok h
    simp only [Bool.and_eq_true] at this
    exact this.1
theorem evRun_ok {n : Nat} {k : Nat} : ∀ {j : Nat}, (evRun n (k + j)).ok = true → (evRun n k).ok = true
  | 0, h => h
  | j + 1, h => evRun_ok (j := j) (evStep_ok h)
theorem evRun_end {n k : Nat} (h : (evRun n k).w = []) : ∀ j : Nat, evRun n (k + j) = evRun n k
  | 0 => rfl
  | j + 1 => by
    show evStep n (evRun n (k + j)) = _
    rw [evRun_end h j]
    unfold evStep
    rw [h]
    rfl
structure EvOk (n : Nat) : Prop where
  ok : (evRun n (evTurns n)).ok = true
  w : (evRun n (evTurns n)).w = []
  m : [] ∈ (evRun n (evTurns n)).f
  l : (evRun n (evTurns n)).f.length < 1000
  ls : ∀ b ∈ (evRun n (evTurns n)).f, b.length < 1000
  e : evP n = lv n
theorem evOk_of {n : Nat} (h : evOk n = true) : EvOk n := by
  unfold evOk at h
  simp only [Bool.and_eq_true_iff] at h
  obtain ⟨⟨⟨⟨⟨h1, h2⟩, h3⟩, h4⟩, h5⟩, h6⟩ := h
  refine ⟨h1, ?_, (memW_iff _ _).mp h3, Nat.blt_eq.mp h4, fun b hb => Nat.blt_eq.mp (List.all_eq_true.mp h5 b hb), eqWs_iff _ _ h6⟩
  split at h2
  · assumption
  · cases h2
def stE (n : Nat) (f w : List (List Pr)) (a b c d : Option R3) : Rho := [some (.im (dn n)), some (.im (.lst (prsOf n))), some (.dc (f.map encW)), some (.ls (w.map encW)), a, b, c, d]
def T_every_web : List D3 → (R3 → Prop) → Prop := fun ds Q => ∃ n, ds = [dn n] ∧ n ≤ 4 ∧ EvOk n ∧ Q (.ls ((lv n).map (webD n)))
theorem notin_W (p : Pr) (b : List Pr) : (true ^^ ((b.map encP).any fun z => z.eqb (encP p))) = !memP p b := by rw [any_encP, Bool.true_xor]
theorem notin_WW (m : List Pr) (f : List (List Pr)) : (true ^^ decide (nk (encW m) ∈ (f.map encW).map nk)) = !memW m f := by rw [nk_memW, Bool.true_xor]
theorem take_fold {α β : Type} (g : β → α → β) (s : β) {l : List α} {j : Nat} {p : α} (h : l[j]? = some p) : (l.take (j + 1)).foldl g s = g ((l.take j).foldl g s) p := by
  rw [List.take_add_one]; rw [h, List.foldl_append]
  rfl
theorem r_every_web {ds : List D3} {Q : R3 → Prop} (h : T_every_web ds Q) : t_every_web T_closed T_raw_web { nx := fun _ => Q (.im .non), rt := fun r _ => Q r } (start3 N_every_web ds) := by
  obtain ⟨n, rfl, hn, ev, q⟩ := h
  refine ⟨n, rfl, by omega, _, rfl, ?_⟩
  refine ⟨by show 0 ≤ 100000; decide, _, rfl, key_encW [], ?_⟩
  refine ⟨by show 0 ≤ 100000; decide, _, rfl, by show 1 ≤ 100000; decide, ?_⟩
  refine ⟨fun m ρ => ∃ k a b c d, m + k = evTurns n ∧ ρ = stE n (evRun n k).f (evRun n k).w a b c d, ⟨evTurns n, 0, none, none, none, none, rfl, rfl⟩, ?_⟩
  rintro m ρ ⟨k, a, b, c, d, hk, rfl⟩
  have okN : (evRun n (k + m)).ok = true := by rw [Nat.add_comm, hk]; exact ev.ok
  refine ⟨_, rfl, _, rfl, ?_⟩
  refine ite_b (c := decide ((0 : Int) < (((evRun n k).w.map encW).length : Nat))) rfl (fun h1 => ?_) (fun h1 => ?_)
  · -- a turn
    have h1 := of_decide_eq_true h1
    rw [List.length_map] at h1
    cases m with
    | zero =>
      rw [Nat.zero_add] at hk
      rw [hk, ev.w] at h1
      exact absurd h1 (by decide)
    | succ m =>
      have ok1 : (evRun n (k + 1)).ok = true := evRun_ok (j := m) (by rw [Nat.add_assoc, Nat.add_comm 1 m]; exact okN)
      cases ep : popL (evRun n k).w with
      | none =>
        rw [popL_none ep] at h1
        exact absurd h1 (by decide)
      | some p =>
        obtain ⟨w, bf⟩ := p
        have ew := popL_some ep
        have es : evRun n (k + 1) = (prsN n).foldl (evIn n bf) ⟨(evRun n k).f, w, (evRun n k).ok && Nat.blt bf.length 100⟩ := by
          show evStep n (evRun n k) = _
          unfold evStep
          rw [ep]
        rw [es] at ok1
        generalize hs0 : (⟨(evRun n k).f, w, (evRun n k).ok && Nat.blt bf.length 100⟩ : EvS) = s0 at es ok1
        have ok0 : s0.ok = true := evFold_ok ok1
        have hb : bf.length < 100 := by
          rw [← hs0] at ok0
          simp only [Bool.and_eq_true] at ok0
          exact Nat.blt_eq.mp ok0.2
        refine ⟨w.map encW, encW bf, by show some (some (R3.ls ((evRun n k).w.map encW))) = _; rw [ew, List.map_append]; rfl, ?_⟩
        refine ⟨_, rfl, prsOf n, rfl, fun j ρ => ∃ b c d, ρ = stE n (((prsN n).take j).foldl (evIn n bf) s0).f (((prsN n).take j).foldl (evIn n bf) s0).w (some (.im (encW bf))) b c d, ⟨b, c, d, ?_⟩, ?_, ?_⟩
        · rw [List.take_zero]
          show _ = stE n s0.f s0.w _ b c d
          rw [← hs0]
          rfl
        · rintro j dd ρ hd ⟨b, c, d, rfl⟩
          rw [prs_enc] at hd
          obtain ⟨⟨o, t⟩, hp, rfl⟩ := map_at hd
          have okJ : (((prsN n).take (j + 1)).foldl (evIn n bf) s0).ok = true := by
            have := ok1
            rw [← List.take_append_drop (j + 1) (prsN n), List.foldl_append] at this
            exact evFold_ok this
          have eJ := take_fold (evIn n bf) s0 hp
          rw [eJ] at okJ
          generalize hs : ((prsN n).take j).foldl (evIn n bf) s0 = s at okJ eJ
          refine ⟨_, _, rfl, ?_⟩
          refine ⟨_, rfl, _, rfl, _, rfl, _, rfl, by show 2 ≤ 100000; decide, _, rfl, fit_encP (o, t), fit_encW bf, _, rfl, ?_⟩
          have stay : (memP (o, t) bf || memP (t, o) bf) = true → ∃ x y z, stE n s.f s.w (some (.im (encW bf))) (some (.im (dn o))) (some (.im (dn t))) d = stE n (((prsN n).take (j + 1)).foldl (evIn n bf) s0).f (((prsN n).take (j + 1)).foldl (evIn n bf) s0).w (some (.im (encW bf))) x y z := fun hm => by
            have e2 : evIn n bf s (o, t) = s := by
              unfold evIn
              rw [show (memP (o, t) bf || memP ((o, t).2, (o, t).1) bf) = true from hm]
              rfl
            rw [eJ, e2]
            exact ⟨some (.im (dn o)), some (.im (dn t)), d, rfl⟩
          refine ite_b (notin_W (o, t) bf) (fun m1 => ?_) (fun m1 => ?_)
          · refine ⟨_, rfl, _, rfl, _, rfl, _, rfl, by show 2 ≤ 100000; decide, _, rfl, fit_encP (t, o), fit_encW bf, _, rfl, ?_⟩
            refine ite_b (notin_W (t, o) bf) (fun m2 => ?_) (fun m2 => ?_)
            · rw [Bool.not_eq_true'] at m1 m2
              cases ec : cl n (bf ++ [(o, t)]) with
              | none =>
                exfalso
                unfold evIn at okJ
                simp only [m1, m2, ec, Bool.or_false, cond_false] at okJ
                cases okJ
              | some mo =>
                refine ⟨_, rfl, _, rfl, _, rfl, _, rfl, _, rfl, _, rfl, _, rfl, by show 2 ≤ 100000; decide, _, rfl, by show 1 ≤ 100000; decide, by show (bf.map encP).length + 1 ≤ 100000; rw [List.length_map]; omega, _, rfl, n, bf ++ [(o, t)], ?_, by omega, by rw [List.length_append]; show bf.length + 1 ≤ 1000; omega, ?_⟩
                · unfold encW
                  rw [List.map_append]
                  rfl
                · rw [ec]
                  refine ⟨_, rfl, _, rfl, key_encW mo, _, rfl, ?_⟩
                  refine ite_b (notin_WW mo s.f) (fun m3 => ?_) (fun m3 => ?_)
                  · rw [Bool.not_eq_true'] at m3
                    have e2 : evIn n bf s (o, t) = ⟨s.f ++ [mo], s.w ++ [mo], s.ok && Nat.blt bf.length 100 && Nat.blt s.f.length 1000 && Nat.blt s.w.length 1000⟩ := by
                      unfold evIn
                      simp only [m1, m2, ec, m3, Bool.or_false, cond_false]
                    rw [e2] at okJ eJ
                    simp only [Bool.and_eq_true] at okJ
                    have l1 := Nat.blt_eq.mp okJ.1.2
                    have l2 := Nat.blt_eq.mp okJ.2
                    refine ⟨⟨_, rfl⟩, _, rfl, encW mo, s.f.map encW, rfl, key_encW mo, rfl, by rw [List.length_map]; omega, ?_⟩
                    refine ⟨⟨_, rfl⟩, _, rfl, _, s.w.map encW, rfl, rfl, by rw [List.length_map]; omega, some (.im (dn o)), some (.im (dn t)), some (.im (encW mo)), ?_⟩
                    rw [eJ]
                    have e3 := putW_enc s.f mo
                    have e4 : putW s.f mo = s.f ++ [mo] := by unfold putW; rw [m3]; rfl
                    rw [e4] at e3
                    unfold stE
                    rw [← e3, List.map_append]
                    rfl
                  · have m3 : memW mo s.f = true := by
                      cases z : memW mo s.f with
                      | true => rfl
                      | false => rw [z] at m3; cases m3
                    have e2 : evIn n bf s (o, t) = s := by
                      unfold evIn
                      simp only [m1, m2, ec, m3, Bool.or_false, cond_false, cond_true]
                    refine ⟨some (.im (dn o)), some (.im (dn t)), some (.im (encW mo)), ?_⟩
                    rw [eJ, e2]
                    rfl
            · exact stay (by
                cases z : memP (t, o) bf with
                | true => rw [Bool.or_true]
                | false => rw [z] at m2; cases m2)
          · exact stay (by
              cases z : memP (o, t) bf with
              | true => rw [Bool.true_or]
              | false => rw [z] at m1; cases m1)
        · rintro ρ ⟨b, c, d, rfl⟩
          have hlen : (prsOf n).length = (prsN n).length := by rw [prs_enc, List.length_map]
          rw [hlen, List.take_length, ← es]
          exact ⟨m, Nat.lt_succ_self _, k + 1, _, _, _, _, by omega, rfl⟩
  · -- the end
    have h1 := of_decide_eq_false h1
    rw [List.length_map] at h1
    have hw : (evRun n k).w = [] := List.eq_nil_of_length_eq_zero (by omega)
    have ee := evRun_end hw m
    rw [Nat.add_comm, hk] at ee
    have hf : (evRun n k).f = (evRun n (evTurns n)).f := by rw [ee]
    rw [hf]
    have hl := ev.l
    refine ⟨_, rfl, (evRun n (evTurns n)).f.map encW, rfl, sorts_W _ (by omega) ev.m, ?_⟩
    rw [sort_W]
    refine ⟨_, rfl, comp_enc encW_inj (fun _ => true) (fun b => webD n (isort leP b)) rfl (by rw [isort_len]; omega) (fun b hb => ?_) ?_⟩
    · have hb' := ev.ls b ((isort_perm leW _).mem_iff.mp hb)
      exact ⟨rfl, rfl, _, rfl, _, rfl, _, rfl, _, rfl, n, b, rfl, by omega, by omega, rfl, _, rfl, inv_yes encW_inj rfl rfl⟩
    · rw [filter_true]
      have e2 : (isort leW (evRun n (evTurns n)).f).map (fun b => webD n (isort leP b)) = (lv n).map (webD n) := by
        rw [← ev.e]
        unfold evP
        rw [List.map_map]
        rfl
      rw [e2]
      exact q
end L3

set_option Elab.async false
set_option autoImplicit false
set_option linter.all false
set_option maxRecDepth 100000
/-! L3, part x: webs_up_to, orders of both sides, the law's webs. -/
namespace L3
open PySem PySem.Spec L2

theorem beq_dec (a b : Nat) : Nat.beq a b = decide (a = b) := by
  rw [Bool.eq_iff_iff, decide_eq_true_iff]
  exact iff_of_eq Nat.beq_eq
theorem eq_dn (a b : Nat) : (false ^^ (dn a).eqb (dn b)) = Nat.beq a b := by rw [Bool.false_xor, eqb_dn, beq_dec]
theorem ne_dn (a b : Nat) : (true ^^ (dn a).eqb (dn b)) = !Nat.beq a b := by rw [Bool.true_xor, eqb_dn, beq_dec]
theorem rg2_at {lo n i : Nat} {d : D3} (h : ((List.range n).map fun k => D3.int ((lo + k : Nat)))[i]? = some d) : i < n ∧ d = dn (lo + i) := by
  rw [List.getElem?_map] at h
  by_cases hi : i < n
  · rw [List.getElem?_range hi] at h
    exact ⟨hi, (Option.some.inj h).symm⟩
  · rw [List.getElem?_eq_none (by rw [List.length_range]; omega)] at h
    cases h
/-! ### webs_up_to -/
def websM (i : Nat) : List D3 := (List.range i).flatMap fun j => (lv (j + 1)).map (webD (j + 1))
theorem flat_range {α : Type} (f : Nat → List α) (i : Nat) : (List.range (i + 1)).flatMap f = (List.range i).flatMap f ++ f i := by
  rw [List.range_succ, List.flatMap_append]
  simp
theorem lv_len {n : Nat} (ev : EvOk n) : (lv n).length < 1000 := by
  rw [← ev.e]
  unfold evP
  rw [List.length_map, isort_len]
  exact ev.l
theorem websM_len {m : Nat} (ev : ∀ n, 1 ≤ n → n ≤ m → EvOk n) : ∀ i, i ≤ m → (websM i).length ≤ i * 1000
  | 0, _ => by simp [websM]
  | i + 1, h => by
    have ih := websM_len ev i (by omega)
    have h2 := lv_len (ev (i + 1) (by omega) h)
    unfold websM at ih ⊢
    rw [flat_range, List.length_append, List.length_map, Nat.succ_mul]
    omega
def T_webs_up_to : List D3 → (R3 → Prop) → Prop := fun ds Q => ∃ m, ds = [dn m] ∧ m ≤ 4 ∧ (∀ n, 1 ≤ n → n ≤ m → EvOk n) ∧ Q (.ls (websM m))
theorem r_webs_up_to {ds : List D3} {Q : R3 → Prop} (h : T_webs_up_to ds Q) : t_webs_up_to T_every_web { nx := fun _ => Q (.im .non), rt := fun r _ => Q r } (start3 N_webs_up_to ds) := by
  obtain ⟨m, rfl, hm, ev, q⟩ := h
  refine ⟨by show 0 ≤ 100000; decide, ?_⟩
  refine ⟨_, rfl, 1, m + 1, rfl, rfl, by omega, by omega, fun i ρ => ∃ a, ρ = [some (.im (dn m)), some (.ls (websM i)), a], ⟨_, rfl⟩, ?_, ?_⟩
  · rintro i d ρ hd ⟨a, rfl⟩
    obtain ⟨hi, rfl⟩ := rg2_at hd
    have hl := websM_len ev i (by omega)
    have e1 : 1 + i = i + 1 := Nat.add_comm _ _
    have h2 := lv_len (ev (i + 1) (by omega) (by omega))
    refine ⟨⟨_, rfl⟩, _, rfl, _, rfl, 1 + i, rfl, by omega, by rw [e1]; exact ev _ (by omega) (by omega), _, _, rfl, rfl, by rw [List.length_map, e1]; omega, some (.im (dn (1 + i))), ?_⟩
    unfold websM
    rw [flat_range, e1]
    rfl
  · rintro ρ ⟨a, rfl⟩
    rw [List.length_map]; rw [List.length_range]
    exact ⟨_, rfl, rfl, q⟩
/-! ### all_orders -/
def stepO (n : Nat) (bs : List Pr) (row : List Nat) : List (List Nat) := (freeM n bs row).map fun x => row ++ [x]
def ordM (n : Nat) (bs : List Pr) : Nat → List (List Nat)
  | 0 => [[]]
  | i + 1 => (ordM n bs i).flatMap (stepO n bs)
theorem freeM_len (n : Nat) (bs : List Pr) (row : List Nat) : (freeM n bs row).length ≤ n := filter_range_len _ _
theorem flat_len {α β : Type} {f : α → List β} {k : Nat} (h : ∀ a, (f a).length ≤ k) : ∀ l : List α, (l.flatMap f).length ≤ l.length * k
  | [] => by simp
  | a :: l => by
    have h1 := h a
    have h2 := flat_len h l
    rw [List.flatMap_cons, List.length_append, List.length_cons, Nat.succ_mul]
    omega
theorem ordM_len (n : Nat) (bs : List Pr) : ∀ i, (ordM n bs i).length ≤ n ^ i
  | 0 => Nat.le_refl _
  | i + 1 => by
    have h1 := ordM_len n bs i
    have h2 := flat_len (f := stepO n bs) (k := n) (fun a => by unfold stepO; rw [List.length_map]; exact freeM_len n bs a) (ordM n bs i)
    show ((ordM n bs i).flatMap _).length ≤ n ^ i * n
    exact Nat.le_trans h2 (Nat.mul_le_mul_right n h1)
theorem ordM_row {n : Nat} {bs : List Pr} : ∀ {i : Nat} {row : List Nat}, row ∈ ordM n bs i → row.length = i ∧ row.Nodup ∧ ∀ x ∈ row, x < n
  | 0, row, h => by
    have : row = [] := by simpa [ordM] using h
    subst this
    exact ⟨rfl, List.nodup_nil, fun x hx => by cases hx⟩
  | i + 1, row, h => by
    obtain ⟨r, hr, h2⟩ := List.mem_flatMap.mp h
    obtain ⟨x, hx, rfl⟩ := List.mem_map.mp h2
    obtain ⟨h3, h4, h5⟩ := ordM_row hr
    obtain ⟨hx1, hx2⟩ := List.mem_filter.mp hx
    unfold freeB at hx2
    rw [Bool.and_eq_true, Bool.not_eq_true', decide_eq_false_iff_not] at hx2
    refine ⟨by rw [List.length_append, h3]; rfl, ?_, fun y hy => ?_⟩
    · rw [List.nodup_append]
      refine ⟨h4, by simp, fun a ha b hb e => ?_⟩
      rw [List.mem_singleton] at hb
      subst hb e
      exact hx2.1 ha
    · rcases List.mem_append.mp hy with hy | hy
      · exact h5 y hy
      · rw [List.mem_singleton] at hy
        subst hy
        exact List.mem_range.mp hx1
theorem pow4 {n i : Nat} (hn : n ≤ 4) (hi : i ≤ 4) : n ^ i ≤ 256 := Nat.le_trans (Nat.pow_le_pow_left hn i) (Nat.le_trans (Nat.pow_le_pow_right (by decide) hi) (by decide))
def T_all_orders : List D3 → (R3 → Prop) → Prop := fun ds Q => ∃ n bs, ds = [webD n bs] ∧ n ≤ 4 ∧ bs.length ≤ 1000 ∧ Q (.ls ((ordM n bs n).map encN))
theorem fzv_i {ρ : Rho} {i : Nat} {ds : List D3} {Q : R3 → Rho → Prop} (h : ρ[i]? = some (some (.ls ds)) ∨ ρ[i]? = some (some (.im (.lst ds)))) (q : Q (.im (.lst ds)) (ρ.set i (some (.im (.lst ds))))) : fzv3 i ρ Q := by
  rcases h with h | h
  · exact .inr ⟨ds, h, q⟩
  · refine .inl ⟨_, h, ?_⟩
    have e : ρ.set i (some (.im (.lst ds))) = ρ := by
      refine List.ext_getElem? ?_
      intro j
      by_cases hj : i = j
      · subst hj
        rcases List.getElem?_eq_some_iff.mp h with ⟨hi, _⟩
        rw [List.getElem?_set_self hi, h]
      · rw [List.getElem?_set_ne hj]
    rwa [e] at q
theorem take_flat {α β : Type} (f : α → List β) {l : List α} {j : Nat} {a : α} (h : l[j]? = some a) : (l.take (j + 1)).flatMap f = (l.take j).flatMap f ++ f a := by
  rw [List.take_add_one, h, List.flatMap_append]
  simp
theorem flat_take_len {α β : Type} {f : α → List β} {k : Nat} (h : ∀ a, (f a).length ≤ k) (l : List α) (j : Nat) : ((l.take j).flatMap f).length ≤ l.length * k := by
  refine Nat.le_trans (flat_len h _) (Nat.mul_le_mul_right k ?_)
  rw [List.length_take]
  exact Nat.min_le_right _ _
theorem encN_add (row : List Nat) (x : Nat) : D3.tup (row.map dn ++ [dn x]) = encN (row ++ [x]) := by
  unfold encN
  rw [List.map_append]
  rfl
theorem r_all_orders {ds : List D3} {Q : R3 → Prop} (h : T_all_orders ds Q) : t_all_orders T_free_names { nx := fun _ => Q (.im .non), rt := fun r _ => Q r } (start3 N_all_orders ds) := by
  obtain ⟨n, bs, rfl, hn, hb, q⟩ := h
  refine ⟨by show 0 ≤ 100000; decide, _, rfl, by show 1 ≤ 100000; decide, ?_⟩
  refine ⟨_, rfl, n, rfl, by omega, fun i ρ => ∃ a b c d, ρ = [some (.im (webD n bs)), some (.ls ((ordM n bs i).map encN)), a, b, c, d], ⟨_, _, _, _, rfl⟩, ?_, ?_⟩
  · rintro i d ρ hd ⟨a, b, c, e, rfl⟩
    obtain ⟨hi, rfl⟩ := rg_at hd
    have lo := ordM_len n bs i
    have lp := pow4 hn (by omega : i ≤ 4)
    refine ⟨by show 0 ≤ 100000; decide, ?_⟩
    refine Or.inr ⟨_, rfl, ?_⟩
    refine ⟨_, rfl, fun j ρ => ∃ c d, ρ = [some (.im (webD n bs)), some (.im (.lst ((ordM n bs i).map encN))), some (.im (dn i)), some (.ls ((((ordM n bs i).take j).flatMap (stepO n bs)).map encN)), c, d], ⟨c, e, by simp⟩, ?_, ?_⟩
    · rintro j d ρ hd ⟨c, e, rfl⟩
      obtain ⟨row, hr, rfl⟩ := map_at hd
      obtain ⟨r1, r2, r3⟩ := ordM_row (List.mem_of_getElem? hr)
      have lf := flat_take_len (f := stepO n bs) (k := n) (fun a => by unfold stepO; rw [List.length_map]; exact freeM_len n bs a) (ordM n bs i) j
      have lf2 : (ordM n bs i).length * n ≤ 256 * 4 := Nat.mul_le_mul (by omega) hn
      have lfr := freeM_len n bs row
      refine ⟨⟨_, rfl⟩, _, rfl, _, rfl, _, rfl, _, rfl, n, bs, row, rfl, by omega, hb, _, rfl, comp_enc (l := freeM n bs row) dn_inj (fun _ => true) (fun x => encN (row ++ [x])) rfl (by omega) (fun x hx => ?_) ?_⟩
      · refine ⟨rfl, rfl, _, rfl, _, rfl, _, rfl, by show 1 ≤ 100000; decide, by show (row.map dn).length + 1 ≤ 100000; rw [List.length_map]; omega, rfl, _, rfl, inv_yes dn_inj rfl ?_⟩
        exact (encN_add row x).symm
      · rw [filter_true]
        refine ⟨_, _, rfl, rfl, by rw [List.length_map, List.length_map]; omega, some (.im (encN row)), e, ?_⟩
        rw [take_flat (stepO n bs) hr, List.map_append]
        unfold stepO
        rw [List.map_map]
        rfl
    · rintro ρ ⟨c, e, rfl⟩
      rw [List.length_map]; rw [List.take_length]
      exact ⟨_, rfl, rfl, _, _, _, _, rfl⟩
  · rintro ρ ⟨a, b, c, e, rfl⟩
    rw [List.length_map]; rw [List.length_range]
    exact ⟨_, rfl, rfl, q⟩
/-! ### _law_free, _law_orders -/
def freeB2 (bs : List Pr) (row : List Nat) (x : Nat) : Bool := !decide (x ∈ row) && Nat.beq (bs.filter fun p => decide (p.2 = x) && !decide (p.1 ∈ row)).length 0
theorem freeB2_eq (bs : List Pr) (row : List Nat) (x : Nat) : freeB2 bs row x = freeB bs row x := by
  unfold freeB2 freeB
  congr 1
  rw [Bool.eq_iff_iff, Nat.beq_eq, List.length_eq_zero_iff, List.filter_eq_nil_iff, List.all_eq_true]
  unfold ahd
  constructor
  · intro h y hy
    obtain ⟨p, hp, rfl⟩ := List.mem_map.mp hy
    obtain ⟨h1, h2⟩ := List.mem_filter.mp hp
    have := h p h1
    rw [h2, Bool.true_and, Bool.not_eq_true', Bool.not_eq_false] at this
    exact this
  · intro h p hp hc
    rw [Bool.and_eq_true, Bool.not_eq_true'] at hc
    have := h p.1 (List.mem_map.mpr ⟨p, List.mem_filter.mpr ⟨hp, hc.1⟩, rfl⟩)
    rw [this] at hc
    exact absurd hc.2 (by simp)
def T_law_free : List D3 → (R3 → Prop) → Prop := fun ds Q => ∃ n bs row, ds = [encW bs, dn n, encN row] ∧ n ≤ 1000 ∧ bs.length ≤ 1000 ∧ Q (.ls ((freeM n bs row).map dn))
theorem r_law_free {ds : List D3} {Q : R3 → Prop} (h : T_law_free ds Q) : t__law_free { nx := fun _ => Q (.im .non), rt := fun r _ => Q r } (start3 N__law_free ds) := by
  obtain ⟨n, bs, row, rfl, hn, hb, q⟩ := h
  refine ⟨by show 0 ≤ 100000; decide, ?_⟩
  refine ⟨_, rfl, n, rfl, by omega, fun i ρ => ∃ a, ρ = [some (.im (encW bs)), some (.im (dn n)), some (.im (encN row)), some (.ls (((List.range i).filter (freeB bs row)).map dn)), a, none, none], ⟨_, rfl⟩, ?_, ?_⟩
  · rintro i d ρ hd ⟨a, rfl⟩
    obtain ⟨hi, rfl⟩ := rg_at hd
    have hl := filter_range_len (freeB bs row) i
    have eF := freeB2_eq bs row i
    refine ⟨_, rfl, _, rfl, fit_dn i, fit_encN row, _, rfl, ?_⟩
    refine ite_b (notin_dn i row) (fun h1 => ?_) (fun h1 => ?_)
    · refine ⟨_, rfl, _, rfl, comp_enc (l := bs) encP_inj (fun p => decide (p.2 = i) && !decide (p.1 ∈ row)) (fun p => dn p.1) rfl (by omega) (fun p hp => ?_) ?_⟩
      · refine ⟨_, _, rfl, rfl, _, rfl, _, rfl, fit_dn _, fit_dn _, _, rfl, ?_⟩
        refine ite_b ((Bool.false_xor _).trans (eqb_dn p.2 i)) (fun h2 => ?_) (fun h2 => ?_)
        · refine ⟨_, rfl, _, rfl, fit_dn _, fit_encN row, _, rfl, rfl, ?_⟩
          refine ite_b (notin_dn p.1 row) (fun h3 => ?_) (fun h3 => ?_)
          · exact ⟨_, rfl, rfl, _, rfl, inv_yes encP_inj (by rw [h2, h3]; rfl) rfl⟩
          · exact inv_no encP_inj (by rw [h2, h3]; rfl)
        · refine ⟨rfl, ?_⟩
          refine iteF ?_
          exact inv_no encP_inj (by rw [h2]; rfl)
      · refine ⟨fit_dn _, fit_dn 0, _, rfl, ?_⟩
        have e2 : (false ^^ (dn ((bs.filter fun p => decide (p.2 = i) && !decide (p.1 ∈ row)).map fun p => dn p.1).length).eqb (dn 0)) = Nat.beq (bs.filter fun p => decide (p.2 = i) && !decide (p.1 ∈ row)).length 0 := by rw [eq_dn, List.length_map]
        refine ite_b e2 (fun h2 => ?_) (fun h2 => ?_)
        · have e0 : freeB bs row i = true := by rw [← eF]; unfold freeB2; rw [h1, h2]; rfl
          refine ⟨⟨_, rfl⟩, _, rfl, _, _, rfl, rfl, by rw [List.length_map]; omega, some (.im (dn i)), ?_⟩
          rw [filter_range, if_pos e0, List.map_append]
          rfl
        · have e0 : freeB bs row i = false := by rw [← eF]; unfold freeB2; rw [h2, Bool.and_false]
          refine ⟨some (.im (dn i)), ?_⟩
          rw [filter_range, if_neg (by rw [e0]; exact Bool.false_ne_true), List.append_nil]
          rfl
    · have e0 : freeB bs row i = false := by unfold freeB; rw [h1, Bool.false_and]
      refine ⟨some (.im (dn i)), ?_⟩
      rw [filter_range, if_neg (by rw [e0]; exact Bool.false_ne_true), List.append_nil]
      rfl
  · rintro ρ ⟨a, rfl⟩
    rw [List.length_map]; rw [List.length_range]
    exact ⟨_, rfl, rfl, q⟩
def T_law_orders : List D3 → (R3 → Prop) → Prop := fun ds Q => ∃ n bs, ds = [encW bs, dn n] ∧ n ≤ 4 ∧ bs.length ≤ 1000 ∧ Q (.ls ((ordM n bs n).map encN))
theorem r_law_orders {ds : List D3} {Q : R3 → Prop} (h : T_law_orders ds Q) : t__law_orders T_law_free { nx := fun _ => Q (.im .non), rt := fun r _ => Q r } (start3 N__law_orders ds) := by
  obtain ⟨n, bs, rfl, hn, hb, q⟩ := h
  refine ⟨by show 0 ≤ 100000; decide, _, rfl, by show 1 ≤ 100000; decide, ?_⟩
  refine ⟨_, rfl, n, rfl, by omega, fun i ρ => ∃ a b c d, ρ = [some (.im (encW bs)), some (.im (dn n)), some (.ls ((ordM n bs i).map encN)), a, b, c, d], ⟨_, _, _, _, rfl⟩, ?_, ?_⟩
  · rintro i d ρ hd ⟨a, b, c, e, rfl⟩
    obtain ⟨hi, rfl⟩ := rg_at hd
    have lo := ordM_len n bs i
    have lp := pow4 hn (by omega : i ≤ 4)
    refine ⟨by show 0 ≤ 100000; decide, ?_⟩
    refine Or.inr ⟨_, rfl, ?_⟩
    refine ⟨_, rfl, fun j ρ => ∃ c d, ρ = [some (.im (encW bs)), some (.im (dn n)), some (.im (.lst ((ordM n bs i).map encN))), some (.im (dn i)), some (.ls ((((ordM n bs i).take j).flatMap (stepO n bs)).map encN)), c, d], ⟨c, e, by simp⟩, ?_, ?_⟩
    · rintro j d ρ hd ⟨c, e, rfl⟩
      obtain ⟨row, hr, rfl⟩ := map_at hd
      obtain ⟨r1, r2, r3⟩ := ordM_row (List.mem_of_getElem? hr)
      have lf := flat_take_len (f := stepO n bs) (k := n) (fun a => by unfold stepO; rw [List.length_map]; exact freeM_len n bs a) (ordM n bs i) j
      have lf2 : (ordM n bs i).length * n ≤ 256 * 4 := Nat.mul_le_mul (by omega) hn
      have lfr := freeM_len n bs row
      refine ⟨_, rfl, rfl, _, rfl, _, rfl, _, rfl, _, rfl, _, rfl, _, rfl, n, bs, row, rfl, by omega, hb, _, rfl, comp_enc (l := freeM n bs row) dn_inj (fun _ => true) (fun x => encN (row ++ [x])) rfl (by omega) (fun x hx => ?_) ?_⟩
      · refine ⟨rfl, rfl, _, rfl, _, rfl, _, rfl, by show 1 ≤ 100000; decide, by show (row.map dn).length + 1 ≤ 100000; rw [List.length_map]; omega, rfl, _, rfl, inv_yes dn_inj rfl ?_⟩
        exact (encN_add row x).symm
      · rw [filter_true]
        refine ⟨by rw [List.length_map, List.length_map]; omega, some (.im (encN row)), e, ?_⟩
        rw [take_flat (stepO n bs) hr, List.map_append]
        unfold stepO
        rw [List.map_map]
        rfl
    · rintro ρ ⟨c, e, rfl⟩
      rw [List.length_map]; rw [List.take_length]
      exact ⟨_, rfl, rfl, _, _, _, _, rfl⟩
  · rintro ρ ⟨a, b, c, e, rfl⟩
    rw [List.length_map]; rw [List.length_range]
    exact ⟨_, rfl, rfl, q⟩
end L3

set_option Elab.async false
set_option autoImplicit false
set_option linter.all false
set_option maxRecDepth 100000
/-! L3, part y: the law's webs. -/
namespace L3
open PySem PySem.Spec L2

theorem sAt_at {row : List Nat} {i : Nat} (h : i < row.length) : atI (row.map dn) (i : Int) = some (dn (sAt row i)) := by
  refine atI0 ?_
  rw [List.getElem?_map]
  unfold sAt
  rw [List.getD_eq_getElem?_getD, List.getElem?_eq_getElem h]
  rfl
/-! ### _law_can_stand -/
def T_can : List D3 → (R3 → Prop) → Prop := fun ds Q => ∃ bs name row, ds = [encW bs, dn name, encN row] ∧ name ≤ 8 ∧ row.length = name ∧ (∀ p ∈ bs, p.1 < name ∧ p.2 < name) ∧ bs.length ≤ 1000 ∧ Q (.im (.bl (canS bs name row)))
theorem any_take {α : Type} {t : α → Bool} {l : List α} {j : Nat} {a : α} (h : l[j]? = some a) : (l.take (j + 1)).any t = ((l.take j).any t || t a) := by
  rw [List.take_add_one, h, List.any_append]
  simp
theorem any_range {t : Nat → Bool} (i : Nat) : (List.range (i + 1)).any t = ((List.range i).any t || t i) := by
  rw [List.range_succ, List.any_append]
  simp
theorem any_of {α : Type} {t : α → Bool} {l : List α} {a : α} (h : a ∈ l) (ht : t a = true) : l.any t = true := List.any_eq_true.mpr ⟨a, h, ht⟩
theorem r_can {ds : List D3} {Q : R3 → Prop} (h : T_can ds Q) : t__law_can_stand { nx := fun _ => Q (.im .non), rt := fun r _ => Q r } (start3 N__law_can_stand ds) := by
  obtain ⟨bs, name, row, rfl, hn, hr, hp, hb, q⟩ := h
  refine ⟨_, rfl, bs.map encP, rfl, fun i ρ => (bs.take i).any (badP row) = false ∧ ∃ a b, ρ = [some (.im (encW bs)), some (.im (dn name)), some (.im (encN row)), a, b], ⟨rfl, _, _, rfl⟩, ?_, ?_⟩
  · rintro i d ρ hd ⟨h0, a, b, rfl⟩
    obtain ⟨p, hpi, rfl⟩ := map_at hd
    have hm := List.mem_of_getElem? hpi
    obtain ⟨p1, p2⟩ := hp p hm
    have et := any_take (t := badP row) hpi
    have bad : badP row p = true → Q (.im (.bl false)) := fun hbad => by
      have : canS bs name row = false := by
        unfold canS
        rw [any_of hm hbad]
        rfl
      rw [this] at q
      exact q
    have good : badP row p = false → (bs.take (i + 1)).any (badP row) = false := fun hg => by rw [et, h0, hg]; rfl
    have a1 := sAt_at (row := row) (i := p.1) (by omega)
    have a2 := sAt_at (row := row) (i := p.2) (by omega)
    have eb : badP row p = ((Nat.beq (sAt row p.2) 0 && !Nat.beq (sAt row p.1) 0) || (Nat.beq (sAt row p.1) 1 && !Nat.beq (sAt row p.2) 1)) := rfl
    refine ⟨_, _, rfl, ?_⟩
    refine ⟨_, rfl, _, rfl, _, a2, fit_dn _, fit_dn 0, _, rfl, ?_⟩
    refine ite_b (eq_dn (sAt row p.2) 0) (fun h1 => ?_) (fun h1 => ?_)
    · refine ⟨_, rfl, _, rfl, _, a1, fit_dn _, fit_dn 0, _, rfl, ?_⟩
      refine ite_b (ne_dn (sAt row p.1) 0) (fun h2 => ?_) (fun h2 => ?_)
      · refine iteT ?_
        exact bad (by rw [eb, h1, h2]; rfl)
      · have hx : (Nat.beq (sAt row p.2) 0 && !Nat.beq (sAt row p.1) 0) = false := by rw [h1, h2]; rfl
        refine ⟨_, rfl, _, rfl, _, a1, fit_dn _, fit_dn 1, _, rfl, ?_⟩
        refine ite_b (eq_dn (sAt row p.1) 1) (fun h3 => ?_) (fun h3 => ?_)
        · refine ⟨_, rfl, _, rfl, _, a2, fit_dn _, fit_dn 1, _, rfl, ?_⟩
          refine ite_b (ne_dn (sAt row p.2) 1) (fun h4 => ?_) (fun h4 => ?_)
          · exact bad (by rw [eb, hx, h3, h4]; rfl)
          · exact ⟨good (by rw [eb, hx, h3, h4]; rfl), _, _, rfl⟩
        · refine iteF ?_
          exact ⟨good (by rw [eb, hx, h3]; rfl), _, _, rfl⟩
    · refine iteF ?_
      have hx : (Nat.beq (sAt row p.2) 0 && !Nat.beq (sAt row p.1) 0) = false := by rw [h1]; rfl
      refine ⟨_, rfl, _, rfl, _, a1, fit_dn _, fit_dn 1, _, rfl, ?_⟩
      refine ite_b (eq_dn (sAt row p.1) 1) (fun h3 => ?_) (fun h3 => ?_)
      · refine ⟨_, rfl, _, rfl, _, a2, fit_dn _, fit_dn 1, _, rfl, ?_⟩
        refine ite_b (ne_dn (sAt row p.2) 1) (fun h4 => ?_) (fun h4 => ?_)
        · exact bad (by rw [eb, hx, h3, h4]; rfl)
        · exact ⟨good (by rw [eb, hx, h3, h4]; rfl), _, _, rfl⟩
      · refine iteF ?_
        exact ⟨good (by rw [eb, hx, h3]; rfl), _, _, rfl⟩
  · rintro ρ ⟨h0, a, b, rfl⟩
    rw [List.length_map, List.take_length] at h0
    refine ⟨_, rfl, name, rfl, by omega, fun i ρ => ((List.range i).any fun o => (List.range name).any fun t => badQ bs row o t) = false ∧ ∃ a b, ρ = [some (.im (encW bs)), some (.im (dn name)), some (.im (encN row)), a, b], ⟨rfl, _, _, rfl⟩, ?_, ?_⟩
    · rintro i d ρ hd ⟨g0, a, b, rfl⟩
      obtain ⟨hi, rfl⟩ := rg_at hd
      refine ⟨_, rfl, name, rfl, by omega, fun j ρ => ((List.range j).any fun t => badQ bs row i t) = false ∧ ∃ b, ρ = [some (.im (encW bs)), some (.im (dn name)), some (.im (encN row)), some (.im (dn i)), b], ⟨rfl, _, rfl⟩, ?_, ?_⟩
      · rintro j d ρ hd ⟨k0, b, rfl⟩
        obtain ⟨hj, rfl⟩ := rg_at hd
        have a1 := sAt_at (row := row) (i := i) (by omega)
        have a2 := sAt_at (row := row) (i := j) (by omega)
        have eb : badQ bs row i j = (Nat.beq (sAt row i) 0 && (Nat.beq (sAt row j) 1 && !memP (i, j) bs)) := rfl
        have bad : badQ bs row i j = true → Q (.im (.bl false)) := fun hbad => by
          have hany : ((List.range name).any fun o => (List.range name).any fun t => badQ bs row o t) = true := any_of (List.mem_range.mpr hi) (any_of (List.mem_range.mpr hj) hbad)
          have : canS bs name row = false := by
            unfold canS
            rw [hany, Bool.not_true, Bool.and_false]
          rw [this] at q
          exact q
        have good : badQ bs row i j = false → ((List.range (j + 1)).any fun t => badQ bs row i t) = false := fun hg => by rw [any_range, k0, hg]; rfl
        refine ⟨_, rfl, _, rfl, _, a1, fit_dn _, fit_dn 0, _, rfl, ?_⟩
        refine ite_b (eq_dn (sAt row i) 0) (fun h1 => ?_) (fun h1 => ?_)
        · refine ⟨_, rfl, _, rfl, _, a2, fit_dn _, fit_dn 1, _, rfl, ?_⟩
          refine ite_b (eq_dn (sAt row j) 1) (fun h2 => ?_) (fun h2 => ?_)
          · refine ⟨_, rfl, _, rfl, _, rfl, _, rfl, by show 2 ≤ 100000; decide, _, rfl, fit_encP (i, j), fit_encW bs, _, rfl, ?_⟩
            refine ite_b (notin_W (i, j) bs) (fun h3 => ?_) (fun h3 => ?_)
            · exact bad (by rw [eb, h1, h2, h3]; rfl)
            · exact ⟨good (by rw [eb, h1, h2, h3]; rfl), _, rfl⟩
          · refine iteF ?_
            exact ⟨good (by rw [eb, h1, h2]; rfl), _, rfl⟩
        · refine iteF ?_
          exact ⟨good (by rw [eb, h1]; rfl), _, rfl⟩
      · rintro ρ ⟨k0, b, rfl⟩
        rw [List.length_map, List.length_range] at k0
        refine ⟨?_, _, _, rfl⟩
        rw [any_range, g0, k0]
        rfl
    · rintro ρ ⟨g0, a, b, rfl⟩
      rw [List.length_map, List.length_range] at g0
      have : canS bs name row = true := by
        unfold canS
        rw [h0, g0]
        rfl
      rw [this] at q
      exact q
/-! ### _law_put_in -/
def T_put : List D3 → (R3 → Prop) → Prop := fun ds Q => ∃ bs name row, ds = [encW bs, dn name, encN row] ∧ name ≤ 8 ∧ row.length = name ∧ bs.length ≤ 1000 ∧ Q (.im (encW (putIn bs name row)))
theorem r_put {ds : List D3} {Q : R3 → Prop} (h : T_put ds Q) : t__law_put_in { nx := fun _ => Q (.im .non), rt := fun r _ => Q r } (start3 N__law_put_in ds) := by
  obtain ⟨bs, name, row, rfl, hn, hr, hb, q⟩ := h
  have f1 := List.length_filter_le (fun o => Nat.beq (sAt row o) 0) (List.range name)
  have f2 := List.length_filter_le (fun o => Nat.beq (sAt row o) 1) (List.range name)
  rw [List.length_range] at f1 f2
  refine ⟨_, rfl, name, rfl, comp_enc (l := List.range name) dn_inj (fun o => Nat.beq (sAt row o) 0) (fun o => encP (o, name)) rfl (by rw [List.length_range]; omega) (fun o ho => ?_) ?_⟩
  · have ho := List.mem_range.mp ho
    refine ⟨rfl, _, rfl, _, rfl, _, sAt_at (by omega), fit_dn _, fit_dn 0, _, rfl, rfl, ?_⟩
    refine ite_b (eq_dn (sAt row o) 0) (fun h => ?_) (fun h => ?_)
    · exact ⟨_, rfl, _, rfl, _, rfl, _, rfl, by show 2 ≤ 100000; decide, rfl, _, rfl, inv_yes dn_inj h rfl⟩
    · exact inv_no dn_inj h
  · refine ⟨_, rfl, rfl, _, rfl, name, rfl, comp_enc (l := List.range name) dn_inj (fun o => Nat.beq (sAt row o) 1) (fun o => encP (name, o)) rfl (by rw [List.length_range]; omega) (fun o ho => ?_) ?_⟩
    · have ho := List.mem_range.mp ho
      refine ⟨rfl, _, rfl, _, rfl, _, sAt_at (by omega), fit_dn _, fit_dn 1, _, rfl, rfl, ?_⟩
      refine ite_b (eq_dn (sAt row o) 1) (fun h => ?_) (fun h => ?_)
      · exact ⟨_, rfl, _, rfl, _, rfl, _, rfl, by show 2 ≤ 100000; decide, rfl, _, rfl, inv_yes dn_inj h rfl⟩
      · exact inv_no dn_inj h
    · refine ⟨by rw [List.length_map, List.length_map]; omega, ?_⟩
      have e1 : ∀ (l : List Nat) (g : Nat → Pr), l.map (fun o => encP (g o)) = (l.map g).map encP := fun l g => by rw [List.map_map]; rfl
      rw [e1 _ (fun o => (o, name)), e1 _ (fun o => (name, o)), ← List.map_append]
      refine ⟨_, rfl, _, rfl, rfl, by rw [List.length_map, List.length_map, List.length_append, List.length_map, List.length_map]; omega, ?_⟩
      rw [← List.map_append]
      refine ⟨_, rfl, sorts_P _ (by rw [List.length_append, List.length_append, List.length_map, List.length_map]; omega), ?_⟩
      rw [sort_P]
      exact q
/-! ### _law_every -/
theorem addS_len {k : Nat} {rows : List (List Nat)} (h : ∀ r ∈ rows, r.length = k) : ∀ r ∈ addS rows, r.length = k + 1 := fun r hr => by
  unfold addS at hr
  obtain hr | hr := List.mem_append.mp hr
  · obtain hr | hr := List.mem_append.mp hr
    · obtain ⟨a, ha, rfl⟩ := List.mem_map.mp hr
      rw [List.length_append, h a ha]
      rfl
    · obtain ⟨a, ha, rfl⟩ := List.mem_map.mp hr
      rw [List.length_append, h a ha]
      rfl
  · obtain ⟨a, ha, rfl⟩ := List.mem_map.mp hr
    rw [List.length_append, h a ha]
    rfl
theorem sidesM_succ (k : Nat) : sidesM (k + 1) = addS (sidesM k) := by
  unfold sidesM
  rw [fold_range]
theorem sidesM_row : ∀ (k : Nat) (r : List Nat), r ∈ sidesM k → r.length = k
  | 0, r, h => by
    have : r = [] := by simpa [sidesM] using h
    subst this
    rfl
  | k + 1, r, h => by
    rw [sidesM_succ] at h
    exact addS_len (sidesM_row k) r h
theorem sidesM_len : ∀ k : Nat, (sidesM k).length = 3 ^ k
  | 0 => rfl
  | k + 1 => by
    rw [sidesM_succ]
    unfold addS
    rw [List.length_append, List.length_append, List.length_map, List.length_map, List.length_map, sidesM_len k, Nat.pow_succ]
    omega
structure LvOk (i : Nat) : Prop where
  m : [] ∈ lvNext (i + 1) (lvRun i)
  l : (lvRun i).length < 1000
  p : ∀ b ∈ lvRun i, b.length < 100 ∧ ∀ p ∈ b, p.1 < i + 1 ∧ p.2 < i + 1
def lvOk (i : Nat) : Bool := memW [] (lvNext (i + 1) (lvRun i)) && Nat.blt (lvRun i).length 1000 && (lvRun i).all fun b => Nat.blt b.length 100 && b.all fun p => Nat.blt p.1 (i + 1) && Nat.blt p.2 (i + 1)
theorem lvOk_of {i : Nat} (h : lvOk i = true) : LvOk i := by
  unfold lvOk at h
  rw [Bool.and_eq_true, Bool.and_eq_true] at h
  obtain ⟨⟨h1, h2⟩, h3⟩ := h
  refine ⟨(memW_iff _ _).mp h1, Nat.blt_eq.mp h2, fun b hb => ?_⟩
  have := List.all_eq_true.mp h3 b hb
  rw [Bool.and_eq_true] at this
  refine ⟨Nat.blt_eq.mp this.1, fun p hp => ?_⟩
  have := List.all_eq_true.mp this.2 p hp
  rw [Bool.and_eq_true] at this
  exact ⟨Nat.blt_eq.mp this.1, Nat.blt_eq.mp this.2⟩
set_option maxHeartbeats 0 in
theorem lvOk0 : lvOk 0 = true := by decide +kernel
set_option maxHeartbeats 0 in
theorem lvOk1 : lvOk 1 = true := by decide +kernel
set_option maxHeartbeats 0 in
theorem lvOk2 : lvOk 2 = true := by decide +kernel
theorem lvOk_all : ∀ i, i < 3 → LvOk i
  | 0, _ => lvOk_of lvOk0
  | 1, _ => lvOk_of lvOk1
  | 2, _ => lvOk_of lvOk2
  | i + 3, h => by omega
def T_law_every : List D3 → (R3 → Prop) → Prop := fun ds Q => ∃ n, ds = [dn n] ∧ 1 ≤ n ∧ n ≤ 4 ∧ Q (.ls ((lv n).map encW))
def stepL (name : Nat) (bs : List Pr) : List (List Pr) := ((sidesM name).filter (canS bs name)).map (putIn bs name)
theorem enc_add (rows : List (List Nat)) (k : Nat) : ((rows.filter fun _ => true).map fun r => encN (r ++ [k])) = (rows.map (· ++ [k])).map encN := by
  rw [filter_true, List.map_map]
  rfl
theorem r_law_every {ds : List D3} {Q : R3 → Prop} (h : T_law_every ds Q) : t__law_every T_can T_put { nx := fun _ => Q (.im .non), rt := fun r _ => Q r } (start3 N__law_every ds) := by
  obtain ⟨n, rfl, hn1, hn, q⟩ := h
  refine ⟨by show 0 ≤ 100000; decide, _, rfl, by show 1 ≤ 100000; decide, ?_⟩
  refine ⟨_, rfl, 1, n, rfl, rfl, by omega, by omega, fun i ρ => ∃ a b c d e, ρ = [some (.im (dn n)), some (.ls ((lvRun i).map encW)), a, b, c, d, e, none], ⟨_, _, _, _, _, rfl⟩, ?_, ?_⟩
  · rintro i d ρ hd ⟨a, b, c, d, e, rfl⟩
    obtain ⟨hi, rfl⟩ := rg2_at hd
    have hi3 : i < 3 := by omega
    obtain ⟨ok1, ok2, ok3⟩ := lvOk_all i hi3
    generalize hname : 1 + i = name
    have hname' : i + 1 = name := by omega
    rw [hname'] at ok1 ok3
    have hn4 : name ≤ 3 := by omega
    refine ⟨by show 0 ≤ 100000; decide, _, rfl, by show 1 ≤ 100000; decide, ?_⟩
    -- sides
    refine ⟨_, rfl, name, rfl, by omega, fun j ρ => ∃ c, ρ = [some (.im (dn n)), some (.ls ((lvRun i).map encW)), some (.im (dn name)), some (.ls ((sidesM j).map encN)), c, d, e, none], ⟨_, rfl⟩, ?_, ?_⟩
    · rintro j dd ρ hd ⟨c, rfl⟩
      obtain ⟨hj, rfl⟩ := rg_at hd
      have ls := sidesM_len j
      have lp : (3 : Nat) ^ j ≤ 3 ^ 3 := Nat.pow_le_pow_right (by decide) (by omega)
      have l27 : (3 : Nat) ^ 3 = 27 := by decide
      refine Or.inr ⟨_, rfl, _, rfl, comp_enc (l := sidesM j) encN_inj (fun _ => true) (fun r => encN (r ++ [0])) rfl (by omega) (fun r hr => ?_) ?_⟩
      · have hl := sidesM_row j r hr
        exact ⟨rfl, rfl, _, rfl, _, rfl, by show 1 ≤ 100000; decide, by show (r.map dn).length + 1 ≤ 100000; rw [List.length_map]; omega, rfl, _, rfl, inv_yes encN_inj rfl (encN_add r 0).symm⟩
      refine Or.inl ⟨_, rfl, _, rfl, comp_enc (l := sidesM j) encN_inj (fun _ => true) (fun r => encN (r ++ [1])) rfl (by omega) (fun r hr => ?_) ?_⟩
      · have hl := sidesM_row j r hr
        exact ⟨rfl, rfl, _, rfl, _, rfl, by show 1 ≤ 100000; decide, by show (r.map dn).length + 1 ≤ 100000; rw [List.length_map]; omega, rfl, _, rfl, inv_yes encN_inj rfl (encN_add r 1).symm⟩
      rw [enc_add, enc_add]
      refine ⟨by rw [List.length_map, List.length_map, List.length_map, List.length_map]; omega, ?_⟩
      rw [← List.map_append]
      refine Or.inl ⟨_, rfl, _, rfl, comp_enc (l := sidesM j) encN_inj (fun _ => true) (fun r => encN (r ++ [2])) rfl (by omega) (fun r hr => ?_) ?_⟩
      · have hl := sidesM_row j r hr
        exact ⟨rfl, rfl, _, rfl, _, rfl, by show 1 ≤ 100000; decide, by show (r.map dn).length + 1 ≤ 100000; rw [List.length_map]; omega, rfl, _, rfl, inv_yes encN_inj rfl (encN_add r 2).symm⟩
      rw [enc_add]
      refine ⟨by rw [List.length_map, List.length_append, List.length_map, List.length_map, List.length_map, List.length_map]; omega, some (.im (dn j)), ?_⟩
      rw [← List.map_append, sidesM_succ]
      rfl
    · rintro ρ ⟨c, rfl⟩
      rw [List.length_map]; rw [List.length_range]
      have lS := sidesM_len name
      have lp : (3 : Nat) ^ name ≤ 3 ^ 3 := Nat.pow_le_pow_right (by decide) hn4
      have l27 : (3 : Nat) ^ 3 = 27 := by decide
      have lstep : ∀ b : List Pr, (stepL name b).length ≤ 27 := fun b => by
        unfold stepL
        rw [List.length_map]
        have := List.length_filter_le (canS b name) (sidesM name)
        omega
      refine ⟨by show 0 ≤ 100000; decide, ?_⟩
      refine Or.inr ⟨_, rfl, _, rfl, fun j ρ => ∃ s3 c e, (s3 = .ls ((sidesM name).map encN) ∨ s3 = .im (.lst ((sidesM name).map encN))) ∧ ρ = [some (.im (dn n)), some (.im (.lst ((lvRun i).map encW))), some (.im (dn name)), some s3, c, some (.ls ((((lvRun i).take j).flatMap (stepL name)).map encW)), e, none], ⟨_, _, _, .inl rfl, rfl⟩, ?_, ?_⟩
      · rintro j dd ρ hd ⟨s3, c, e, hs3, rfl⟩
        obtain ⟨b, hb, rfl⟩ := map_at hd
        obtain ⟨b1, b2⟩ := ok3 b (List.mem_of_getElem? hb)
        have lf := flat_take_len (f := stepL name) lstep (lvRun i) j
        have lf2 : (lvRun i).length * 27 ≤ 1000 * 27 := Nat.mul_le_mul_right 27 (by omega)
        have lb := lstep b
        have go : comp3 ((sidesM name).map encN) (gn3 7) (tst3 (callF T_can (cons3 (v3 6) (cons3 (v3 2) (cons3 (v3 7) nil3))))) (callF T_put (cons3 (v3 6) (cons3 (v3 2) (cons3 (v3 7) nil3)))) [7] [some (.im (dn n)), some (.im (.lst ((lvRun i).map encW))), some (.im (dn name)), some (.im (.lst ((sidesM name).map encN))), c, none, some (.im (encW b)), none]
            (fun r ρ2 => add3 (.ls ((((lvRun i).take j).flatMap (stepL name)).map encW)) r fun c' => ∃ s3 c e, (s3 = .ls ((sidesM name).map encN) ∨ s3 = .im (.lst ((sidesM name).map encN))) ∧ ρ2.set 5 (some c') = [some (.im (dn n)), some (.im (.lst ((lvRun i).map encW))), some (.im (dn name)), some s3, c, some (.ls ((((lvRun i).take (j + 1)).flatMap (stepL name)).map encW)), e, none]) := by
          refine comp_enc (l := sidesM name) encN_inj (canS b name) (fun r => encW (putIn b name r)) rfl (by omega) (fun r hr => ?_) ?_
          · have hl := sidesM_row name r hr
            refine ⟨rfl, _, rfl, _, rfl, _, rfl, _, rfl, _, rfl, _, rfl, b, name, r, rfl, by omega, hl, b2, by omega, _, rfl, rfl, ?_⟩
            refine ite_b rfl (fun h => ?_) (fun h => ?_)
            · exact ⟨_, rfl, _, rfl, _, rfl, _, rfl, _, rfl, _, rfl, b, name, r, rfl, by omega, hl, by omega, rfl, _, rfl, inv_yes encN_inj h rfl⟩
            · exact inv_no encN_inj h
          · have e1 : (((sidesM name).filter (canS b name)).map fun r => encW (putIn b name r)) = (stepL name b).map encW := by
              unfold stepL
              rw [List.map_map]
              rfl
            rw [e1]
            refine ⟨by rw [List.length_map, List.length_map]; omega, _, c, some (.im (encW b)), .inr rfl, ?_⟩
            rw [take_flat (stepL name) hb, List.map_append]
            rfl
        rcases hs3 with rfl | rfl
        · exact ⟨_, rfl, rfl, Or.inr ⟨_, rfl, _, rfl, go⟩⟩
        · exact ⟨_, rfl, rfl, Or.inl ⟨_, rfl, _, rfl, go⟩⟩
      · rintro ρ ⟨s3, c, e, hs3, rfl⟩
        rw [List.length_map]; rw [List.take_length]
        have lfl := flat_len lstep (lvRun i)
        have lf2 : (lvRun i).length * 27 ≤ 1000 * 27 := Nat.mul_le_mul_right 27 (by omega)
        have eN : (lvRun i).flatMap (stepL name) = lvNext name (lvRun i) := rfl
        rw [eN] at lfl ⊢
        refine ⟨_, rfl, rfl, _, rfl, sorts_W _ (by omega) ok1, some (.im (dn name)), some s3, c, none, e, ?_⟩
        rw [sort_W]
        subst hname'
        rfl
  · rintro ρ ⟨a, b, c, d, e, rfl⟩
    rw [List.length_map]; rw [List.length_range]
    exact ⟨_, rfl, rfl, q⟩
end L3

set_option Elab.async false
set_option autoImplicit false
set_option linter.all false
set_option maxRecDepth 100000
/-! L3, part z: books. -/
namespace L3
open PySem PySem.Spec L2

inductive Deed where
  | front | back | cond (n : Nat) (a b : List Deed)
mutual
def encD : Deed → D3
  | .front => .tup [.str "front"]
  | .back => .tup [.str "back"]
  | .cond n a b => .tup [.str "if", dn n, .tup (encDs a), .tup (encDs b)]
def encDs : List Deed → List D3
  | [] => []
  | d :: l => encD d :: encDs l
end
mutual
def cntD : Deed → Nat
  | .front => 1
  | .back => 1
  | .cond _ a b => cntB a + cntB b + 1
def cntB : List Deed → Nat
  | [] => 0
  | d :: l => cntD d + cntB l
end
theorem encDs_map : ∀ l : List Deed, encDs l = l.map encD
  | [] => by unfold encDs; rfl
  | d :: l => by unfold encDs; rw [encDs_map l]; rfl
def encB (l : List Deed) : D3 := .tup (l.map encD)
theorem encD_cond (n : Nat) (a b : List Deed) : encD (.cond n a b) = .tup [.str "if", dn n, encB a, encB b] := by
  unfold encD encB
  rw [encDs_map, encDs_map]
theorem cntD_pos (d : Deed) : 1 ≤ cntD d := by
  cases d with
  | front => unfold cntD; omega
  | back => unfold cntD; omega
  | cond n a b => unfold cntD; omega
theorem cntB_nil : cntB [] = 0 := by unfold cntB; rfl
theorem cntB_cons (d : Deed) (l : List Deed) : cntB (d :: l) = cntD d + cntB l := by rw [cntB]
theorem cntB_app : ∀ a b : List Deed, cntB (a ++ b) = cntB a + cntB b
  | [], b => by rw [cntB_nil, List.nil_append, Nat.zero_add]
  | d :: a, b => by rw [List.cons_append, cntB_cons, cntB_cons, cntB_app a b, Nat.add_assoc]
theorem len_cnt : ∀ l : List Deed, l.length ≤ cntB l
  | [] => Nat.zero_le _
  | d :: l => by
    have h1 := len_cnt l
    have h2 := cntD_pos d
    rw [List.length_cons, cntB_cons]
    omega
def okD : Nat → Deed → Prop
  | _, .front => True
  | _, .back => True
  | 0, .cond _ _ _ => False
  | k + 1, .cond n a b => n < 8 ∧ (a ≠ [] ∧ ∀ d ∈ a, okD k d) ∧ (b ≠ [] ∧ ∀ d ∈ b, okD k d)
def okB (k : Nat) (l : List Deed) : Prop := l ≠ [] ∧ ∀ d ∈ l, okD k d
theorem okD_cond {k n : Nat} {a b : List Deed} (h : okD k (.cond n a b)) : ∃ j, k = j + 1 ∧ n < 8 ∧ okB j a ∧ okB j b := by
  cases k with
  | zero => unfold okD at h; exact h.elim
  | succ k => unfold okD at h; exact ⟨k, rfl, h⟩
theorem okD_up : ∀ {k : Nat} {d : Deed}, okD k d → okD (k + 1) d
  | _, .front, _ => by unfold okD; trivial
  | _, .back, _ => by unfold okD; trivial
  | 0, .cond _ _ _, h => by unfold okD at h; exact h.elim
  | k + 1, .cond n a b, h => by
    unfold okD at h ⊢
    exact ⟨h.1, ⟨h.2.1.1, fun d hd => okD_up (h.2.1.2 d hd)⟩, ⟨h.2.2.1, fun d hd => okD_up (h.2.2.2 d hd)⟩⟩
theorem okB_up {k : Nat} {l : List Deed} (h : okB k l) : okB (k + 1) l := ⟨h.1, fun d hd => okD_up (h.2 d hd)⟩
/-! ### deeds_in, deeds_of, is_book, check_book -/
def T_in (k : Nat) : List D3 → (R3 → Prop) → Prop := fun ds Q => ∃ b deep, ds = [encB b, dn deep] ∧ okB k b ∧ deep + k ≤ 6 ∧ cntB b ≤ 1000 ∧ Q (.im (dn (cntB b)))
def T_of (k : Nat) : List D3 → (R3 → Prop) → Prop := fun ds Q => ∃ d deep, ds = [encD d, dn deep] ∧ okD k d ∧ deep + k ≤ 6 ∧ cntD d ≤ 1000 ∧ Q (.im (dn (cntD d)))
def TinP : Nat → List D3 → (R3 → Prop) → Prop
  | 0 => fun _ _ => False
  | k + 1 => T_in k
theorem cnt_take {l : List Deed} {i : Nat} {d : Deed} (h : l[i]? = some d) : cntB (l.take (i + 1)) = cntB (l.take i) + cntD d := by
  rw [List.take_add_one, h, cntB_app]
  show _ + cntB [d] = _
  rw [cntB_cons, cntB_nil, Nat.add_zero]
theorem cnt_mem {l : List Deed} {d : Deed} (h : d ∈ l) : cntD d ≤ cntB l := by
  induction l with
  | nil => cases h
  | cons e l ih =>
    rw [cntB_cons]
    obtain rfl | h := List.mem_cons.mp h
    · omega
    · have := ih h
      omega
theorem ne_len {α β : Type} {l : List α} (f : α → β) (h : l ≠ []) : Nat.beq (l.map f).length 0 = false := by
  cases l with
  | nil => exact absurd rfl h
  | cons a l => rfl
theorem r_deeds_in {k : Nat} {ds : List D3} {Q : R3 → Prop} (h : T_in k ds Q) : t_deeds_in (T_of k) { nx := fun _ => Q (.im .non), rt := fun r _ => Q r } (start3 N_deeds_in ds) := by
  obtain ⟨b, deep, rfl, ok, hk, hc, q⟩ := h
  have hlen := len_cnt b
  refine ⟨_, rfl, _, rfl, ?_⟩
  refine iteF ?_
  refine ⟨_, rfl, fit_dn _, fit_dn 0, _, rfl, ?_⟩
  refine ite_b (eq_dn (b.map encD).length 0) (fun h => ?_) (fun h => ?_)
  · rw [ne_len encD ok.1] at h
    cases h
  refine ⟨_, rfl, _, rfl, ?_⟩
  refine ite_b (c := decide ((6 : Int) < (deep : Nat))) rfl (fun h => ?_) (fun h => ?_)
  · have := of_decide_eq_true h
    omega
  refine ⟨_, rfl, b.map encD, rfl, fun i ρ => ∃ a c, ρ = [some (.im (encB b)), some (.im (dn deep)), some (.im (dn (cntB (b.take i)))), a, c], ⟨_, _, by rw [List.take_zero, cntB_nil]; rfl⟩, ?_, ?_⟩
  · rintro i d ρ hd ⟨a, c, rfl⟩
    obtain ⟨d, hi, rfl⟩ := map_at hd
    have hm : d ∈ b := List.mem_of_getElem? hi
    have hcd := cnt_mem hm
    refine ⟨_, rfl, _, rfl, _, rfl, _, rfl, d, deep, rfl, ok.2 d hm, hk, by omega, ?_⟩
    refine ⟨_, rfl, _, rfl, ?_⟩
    refine iteF ?_
    refine ⟨⟨_, rfl⟩, _, rfl, _, rfl, rfl, some (.im (encD d)), some (.im (dn (cntD d))), ?_⟩
    rw [cnt_take hi]
    rfl
  · rintro ρ ⟨a, c, rfl⟩
    rw [List.length_map]; rw [List.take_length]
    exact ⟨_, rfl, q⟩
theorem sFit (x : String) (h : PyData.strOk (Str.ofString x) = true) : (D3.str x).fit = true := by
  simp [D3.fit, D3.ok, pd, SeqAt.shaped, PyData.canLay0, PyData.depth, h]
theorem fit_front : (D3.str "front").fit = true := sFit _ (by decide +kernel)
theorem fit_back : (D3.str "back").fit = true := sFit _ (by decide +kernel)
theorem fit_if : (D3.str "if").fit = true := sFit _ (by decide +kernel)
theorem fit_fb : (D3.tup [.str "front", .str "back"]).fit = true := by
  have h1 : PyData.strOk (Str.ofString "front") = true := by decide +kernel
  have h2 : PyData.strOk (Str.ofString "back") = true := by decide +kernel
  simp [D3.fit, D3.ok, D3.oks, pd, pds, SeqAt.shaped, PyData.canLay0, PyData.canLayAll0, PyData.depth, PyData.depthAll, h1, h2]
theorem eqb_str (x y : Str) : (D3.str x).eqb (.str y) = (x == y) := by
  unfold D3.eqb
  rw [pd, pd, PyData.eqv]
theorem s_ff : (D3.str "front").eqb (.str "front") = true := by rw [eqb_str]; decide +kernel
theorem s_bf : (D3.str "back").eqb (.str "front") = false := by rw [eqb_str]; decide +kernel
theorem s_fb : (D3.str "front").eqb (.str "back") = false := by rw [eqb_str]; decide +kernel
theorem s_bb : (D3.str "back").eqb (.str "back") = true := by rw [eqb_str]; decide +kernel
theorem s_fi : (D3.str "front").eqb (.str "if") = false := by rw [eqb_str]; decide +kernel
theorem s_bi : (D3.str "back").eqb (.str "if") = false := by rw [eqb_str]; decide +kernel
theorem s_ii : (D3.str "if").eqb (.str "if") = true := by rw [eqb_str]; decide +kernel
theorem s_if : (D3.str "if").eqb (.str "front") = false := by rw [eqb_str]; decide +kernel
theorem s_ib : (D3.str "if").eqb (.str "back") = false := by rw [eqb_str]; decide +kernel
theorem in_f : (false ^^ ([D3.str "front", .str "back"].any fun z => z.eqb (.str "front"))) = true := by rw [List.any_cons, s_ff]; rfl
theorem in_b : (false ^^ ([D3.str "front", .str "back"].any fun z => z.eqb (.str "back"))) = true := by rw [List.any_cons, List.any_cons, s_fb, s_bb]; rfl
theorem in_i : (false ^^ ([D3.str "front", .str "back"].any fun z => z.eqb (.str "if"))) = false := by rw [List.any_cons, List.any_cons, s_fi, s_bi]; rfl
theorem r_deeds_of {k : Nat} {ds : List D3} {Q : R3 → Prop} (h : T_of k ds Q) : t_deeds_of T_is_within (TinP k) { nx := fun _ => Q (.im .non), rt := fun r _ => Q r } (start3 N_deeds_of ds) := by
  obtain ⟨d, deep, rfl, ok, hk, hc, q⟩ := h
  have simple : ∀ x : Str, encD d = .tup [.str x] → cntD d = 1 → (D3.str x).fit = true → (false ^^ ([D3.str "front", .str "back"].any fun z => z.eqb (.str x))) = true → t_deeds_of T_is_within (TinP k) { nx := fun _ => Q (.im .non), rt := fun r _ => Q r } (start3 N_deeds_of [encD d, dn deep]) := fun x he hcc hf hin => by
    rw [he]
    rw [hcc] at q
    refine ⟨_, rfl, _, rfl, ?_⟩
    refine iteF ?_
    refine ⟨_, rfl, fit_dn 1, fit_dn 0, _, rfl, ?_⟩
    refine ite_b (eq_dn 1 0) (fun h => by cases h) (fun _ => ?_)
    refine ⟨_, rfl, _, rfl, _, rfl, ?_⟩
    refine iteF ?_
    refine ⟨_, rfl, _, rfl, _, rfl, _, rfl, by show 2 ≤ 100000; decide, hf, fit_fb, _, rfl, ?_⟩
    refine ite_b hin (fun _ => ?_) (fun h => by cases h)
    refine ⟨_, rfl, fit_dn 1, fit_dn 1, _, rfl, ?_⟩
    refine ite_b (eq_dn 1 1) (fun _ => ?_) (fun h => by cases h)
    exact q
  cases d with
  | front => exact simple "front" (by unfold encD; rfl) (by unfold cntD; rfl) fit_front in_f
  | back => exact simple "back" (by unfold encD; rfl) (by unfold cntD; rfl) fit_back in_b
  | cond n a b =>
    obtain ⟨j, rfl, hn, oa, ob⟩ := okD_cond ok
    have ec : cntD (.cond n a b) = cntB a + cntB b + 1 := by rw [cntD]
    rw [encD_cond]
    rw [ec] at q hc
    refine ⟨_, rfl, _, rfl, ?_⟩
    refine iteF ?_
    refine ⟨_, rfl, fit_dn 4, fit_dn 0, _, rfl, ?_⟩
    refine ite_b (eq_dn 4 0) (fun h => by cases h) (fun _ => ?_)
    refine ⟨_, rfl, _, rfl, _, rfl, ?_⟩
    refine iteF ?_
    refine ⟨_, rfl, _, rfl, _, rfl, _, rfl, by show 2 ≤ 100000; decide, fit_if, fit_fb, _, rfl, ?_⟩
    refine ite_b in_i (fun h => by cases h) (fun _ => ?_)
    refine ⟨_, rfl, _, rfl, fit_if, fit_if, _, rfl, ?_⟩
    refine ite_b (c := false) (by rw [s_ii]; rfl) (fun h => by cases h) (fun _ => ?_)
    refine ⟨_, rfl, fit_dn 4, fit_dn 4, _, rfl, ?_⟩
    refine ite_b (ne_dn 4 4) (fun h => by cases h) (fun _ => ?_)
    refine ⟨_, rfl, _, rfl, _, rfl, _, rfl, _, rfl, _, _, _, rfl, _, rfl, ?_⟩
    refine ite_b (c := false) ?_ (fun h => by cases h) (fun _ => ?_)
    · rw [decide_eq_true (by omega : (0 : Int) ≤ (n : Nat)), decide_eq_true (by omega : ((n : Nat) : Int) ≤ 7)]
      rfl
    refine ⟨_, rfl, _, rfl, _, rfl, _, rfl, _, rfl, a, deep + 1, rfl, oa, by omega, by omega, ?_⟩
    refine ⟨_, rfl, _, rfl, _, rfl, _, rfl, _, rfl, b, deep + 1, rfl, ob, by omega, by omega, ?_⟩
    refine ⟨_, rfl, _, rfl, ?_⟩
    refine iteF ?_
    refine ⟨_, rfl, _, rfl, ?_⟩
    refine iteF ?_
    refine ⟨_, rfl, _, rfl, ?_⟩
    exact q
def T_is_book : List D3 → (R3 → Prop) → Prop := fun ds Q => ∃ b, ds = [encB b] ∧ okB 5 b ∧ cntB b ≤ 40 ∧ Q (.im (.bl true))
theorem r_is_book {ds : List D3} {Q : R3 → Prop} (h : T_is_book ds Q) : t_is_book (T_in 5) { nx := fun _ => Q (.im .non), rt := fun r _ => Q r } (start3 N_is_book ds) := by
  obtain ⟨b, rfl, ok, hc, q⟩ := h
  refine ⟨_, rfl, _, rfl, _, rfl, b, 1, rfl, ok, by omega, by omega, ?_⟩
  refine ⟨_, rfl, _, rfl, ?_⟩
  refine iteT ?_
  refine ⟨_, rfl, ?_⟩
  have : decide (((cntB b : Nat) : Int) ≤ 40) = true := decide_eq_true (by omega)
  rw [← this] at q
  exact q
def T_check_book : List D3 → (R3 → Prop) → Prop := fun ds Q => ∃ b, ds = [encB b] ∧ okB 5 b ∧ cntB b ≤ 40 ∧ Q (.im .non)
theorem r_check_book {ds : List D3} {Q : R3 → Prop} (h : T_check_book ds Q) : t_check_book T_is_book { nx := fun _ => Q (.im .non), rt := fun r _ => Q r } (start3 N_check_book ds) := by
  obtain ⟨b, rfl, ok, hc, q⟩ := h
  refine ⟨_, rfl, _, rfl, b, rfl, ok, hc, _, rfl, ?_⟩
  exact iteF q
end L3

set_option Elab.async false
set_option autoImplicit false
set_option linter.all false
set_option maxRecDepth 100000
/-! L3, part B1: the program's chances. -/
namespace L3
open PySem PySem.Spec L2

theorem cut_tail (x : D3) (l : List D3) : cut3 (x :: l) (some 1) none = l := by
  have h1 : HT.sIx (x :: l).length 0 (some ((1 : Nat) : Int)) = 1 := by
    rw [HT.sIx_nat, List.length_cons]
    omega
  have h2 : HT.sIx (x :: l).length (x :: l).length none = (x :: l).length := HT.sIx_none _ _
  unfold cut3
  rw [show (some (1 : Int)) = some ((1 : Nat) : Int) from rfl, h1, h2, List.length_cons, List.drop_one, List.tail_cons]
  exact List.take_of_length_le (by omega)
theorem cut_drop1 (l : List D3) : cut3 l (some 1) none = l.drop 1 := by
  cases l with
  | nil =>
    unfold cut3
    rw [show (some (1 : Int)) = some ((1 : Nat) : Int) from rfl, HT.sIx_nat, HT.sIx_none]
    rfl
  | cons x l => rw [cut_tail]; rfl
theorem cut_last (l : List D3) : cut3 l none (some (-1)) = l.dropLast := by
  unfold cut3
  have h : HT.sIx l.length l.length (some (-1)) = l.length - 1 := by
    show (if (-1 : Int) < 0 then ((-1 : Int) + (l.length : Int)).toNat else min (-1 : Int).toNat l.length) = _
    rw [if_pos (by decide)]
    omega
  rw [HT.sIx_none, h, Nat.sub_zero, List.drop_zero, List.dropLast_eq_take]
/-! ### the next side -/
def sel (left : List Nat) (n : Nat) (a b : List Deed) : List Deed := if n ∈ left then b else a
theorem sel_cnt (left : List Nat) (n : Nat) (a b r : List Deed) : cntB (sel left n a b ++ r) < cntB (.cond n a b :: r) := by
  rw [cntB_app, cntB_cons]
  have : cntD (.cond n a b) = cntB a + cntB b + 1 := by rw [cntD]
  unfold sel
  split
  · omega
  · omega
def go (left : List Nat) : List Deed → Bool × List Deed
  | [] => (true, [])
  | .front :: r => (true, r)
  | .back :: r => (false, r)
  | .cond n a b :: r => go left (sel left n a b ++ r)
termination_by t => cntB t
decreasing_by exact sel_cnt left n a b r
theorem go_front (left : List Nat) (r : List Deed) : go left (.front :: r) = (true, r) := by rw [go]
theorem go_back (left : List Nat) (r : List Deed) : go left (.back :: r) = (false, r) := by rw [go]
theorem go_cond (left : List Nat) (n : Nat) (a b r : List Deed) : go left (.cond n a b :: r) = go left (sel left n a b ++ r) := by rw [go]
def okL (l : List Deed) : Prop := ∀ d ∈ l, ∃ k, okD k d
theorem okL_cond {n : Nat} {a b r : List Deed} (h : okL (.cond n a b :: r)) (left : List Nat) : n < 8 ∧ a ≠ [] ∧ b ≠ [] ∧ okL (sel left n a b ++ r) ∧ sel left n a b ++ r ≠ [] := by
  obtain ⟨k, hk⟩ := h _ List.mem_cons_self
  obtain ⟨j, rfl, hn, oa, ob⟩ := okD_cond hk
  refine ⟨hn, oa.1, ob.1, fun d hd => ?_, ?_⟩
  · rcases List.mem_append.mp hd with hd | hd
    · unfold sel at hd
      split at hd
      · exact ⟨j, ob.2 d hd⟩
      · exact ⟨j, oa.2 d hd⟩
    · exact h d (List.mem_cons_of_mem _ hd)
  · intro e
    have := (List.append_eq_nil_iff.mp e).1
    unfold sel at this
    split at this
    · exact ob.1 this
    · exact oa.1 this
theorem okL_tail {d : Deed} {r : List Deed} (h : okL (d :: r)) : okL r := fun e he => h e (List.mem_cons_of_mem _ he)
/-- what is left of the deeds -/
theorem go_rest (left : List Nat) : ∀ (m : Nat) (t : List Deed), cntB t ≤ m → okL t → okL (go left t).2 ∧ cntB (go left t).2 ≤ cntB t
  | _, [], _, _ => by rw [go]; exact ⟨fun d hd => (by cases hd), Nat.le_refl _⟩
  | _, .front :: r, _, h => by rw [go_front, cntB_cons]; exact ⟨okL_tail h, by show cntB r ≤ _; omega⟩
  | _, .back :: r, _, h => by rw [go_back, cntB_cons]; exact ⟨okL_tail h, by show cntB r ≤ _; omega⟩
  | 0, .cond n a b :: r, hm, h => by
    have := sel_cnt left n a b r
    omega
  | m + 1, .cond n a b :: r, hm, h => by
    have hc := sel_cnt left n a b r
    obtain ⟨_, _, _, h1, _⟩ := okL_cond h left
    obtain ⟨h2, h3⟩ := go_rest left m (sel left n a b ++ r) (by omega) h1
    rw [go_cond]
    exact ⟨h2, by omega⟩
def sStr : Bool → D3
  | true => .str "front"
  | false => .str "back"
def first (book todo : List Deed) : List Deed := if todo.length = 0 then book else todo
def T_next_side : List D3 → (R3 → Prop) → Prop := fun ds Q => ∃ book todo left, ds = [encB book, encB todo, encN left] ∧ okL book ∧ book ≠ [] ∧ okL todo ∧ cntB book ≤ 1000 ∧ cntB todo ≤ 1000 ∧
  Q (.im (.tup [sStr (go left (first book todo)).1, encB (go left (first book todo)).2]))
theorem gt_len {α β : Type} (l : List α) (f : α → β) : decide ((0 : Int) < ((l.map f).length : Nat)) = !Nat.beq l.length 0 := by
  rw [List.length_map, beq_dec]
  by_cases h : l.length = 0
  · rw [h]
    rfl
  · rw [decide_eq_true (by omega), decide_eq_false h]
    rfl
theorem at_head (x : D3) (l : List D3) : atI (x :: l) (0 : Int) = some x := atI0 (xs := x :: l) (j := 0) rfl
theorem r_next_side {ds : List D3} {Q : R3 → Prop} (h : T_next_side ds Q) : t_next_side { nx := fun _ => Q (.im .non), rt := fun r _ => Q r } (start3 N_next_side ds) := by
  obtain ⟨book, todo, left, rfl, hb, hb0, ht, cb, ct, q⟩ := h
  have start : ∀ t : List Deed, okL t → t ≠ [] → cntB t ≤ 1000 → go left t = go left (first book todo) →
      seq3 (while3 (tst3 (op2 (eq3 false) (op2 ix3 (op2 ix3 (v3 1) (c3 (.int 0))) (c3 (.int 0))) (c3 (.str "if")))) (seq3 (asg3 (op2 ix3 (v3 1) (c3 (.int 0))) 3) (asg3 (op2 add3 (op2 ix3 (v3 3) (if3 (tst3 (op2 (in3 false) (op2 ix3 (v3 3) (c3 (.int 1))) (v3 2))) (c3 (.int 3)) (c3 (.int 2)))) (sl3 (some 1) none (v3 1))) 1)))
        (ret3 (tup3 (cons3 (op2 ix3 (op2 ix3 (v3 1) (c3 (.int 0))) (c3 (.int 0))) (cons3 (sl3 (some 1) none (v3 1)) nil3)))) { nx := fun _ => Q (.im .non), rt := fun r _ => Q r } [some (.im (encB book)), some (.im (encB t)), some (.im (encN left)), none] := fun t ot nt ctt hgo => by
    refine ⟨fun m ρ => ∃ t d, okL t ∧ t ≠ [] ∧ cntB t ≤ 1000 ∧ go left t = go left (first book todo) ∧ m = cntB t ∧ ρ = [some (.im (encB book)), some (.im (encB t)), some (.im (encN left)), d], ⟨_, t, none, ot, nt, ctt, hgo, rfl, rfl⟩, ?_⟩
    rintro m ρ ⟨t, d, ot, nt, ctt, hgo, rfl, rfl⟩
    have fin : ∀ (x : Bool) (dd : Deed) (r : List Deed), t = dd :: r → encD dd = .tup [sStr x] → go left t = (x, r) → Q (.im (.tup [sStr x, encB r])) := fun x dd r e1 e2 e3 => by
      rw [← hgo, e3] at q
      exact q
    cases t with
    | nil => exact absurd rfl nt
    | cons dd r =>
      have hr := len_cnt (dd :: r)
      cases dd with
      | front =>
        have e : encD .front = .tup [.str "front"] := by unfold encD; rfl
        refine ⟨_, rfl, encD .front, at_head _ _, ?_⟩
        rw [e]
        refine ⟨_, rfl, fit_front, fit_if, _, rfl, ?_⟩
        refine ite_b (c := false) (by rw [s_fi]; rfl) (fun h => by cases h) (fun _ => ?_)
        refine ⟨_, rfl, encD .front, at_head _ _, ?_⟩
        rw [e]
        refine ⟨_, rfl, _, rfl, _, rfl, _, rfl, _, rfl, by show 2 ≤ 100000; decide, ?_⟩
        rw [List.map_cons, cut_tail]
        exact fin true .front r rfl e (go_front left r)
      | back =>
        have e : encD .back = .tup [.str "back"] := by unfold encD; rfl
        refine ⟨_, rfl, encD .back, at_head _ _, ?_⟩
        rw [e]
        refine ⟨_, rfl, fit_back, fit_if, _, rfl, ?_⟩
        refine ite_b (c := false) (by rw [s_bi]; rfl) (fun h => by cases h) (fun _ => ?_)
        refine ⟨_, rfl, encD .back, at_head _ _, ?_⟩
        rw [e]
        refine ⟨_, rfl, _, rfl, _, rfl, _, rfl, _, rfl, by show 2 ≤ 100000; decide, ?_⟩
        rw [List.map_cons, cut_tail]
        exact fin false .back r rfl e (go_back left r)
      | cond n a b =>
        have e := encD_cond n a b
        obtain ⟨hn, ha, hb2, oks, nes⟩ := okL_cond ot left
        have hcs := sel_cnt left n a b r
        refine ⟨_, rfl, encD (.cond n a b), at_head _ _, ?_⟩
        rw [e]
        refine ⟨_, rfl, fit_if, fit_if, _, rfl, ?_⟩
        refine ite_b (c := true) (by rw [s_ii]; rfl) (fun _ => ?_) (fun h => by cases h)
        refine ⟨_, rfl, encD (.cond n a b), at_head _ _, ?_⟩
        rw [e]
        refine ⟨_, rfl, _, rfl, _, rfl, _, rfl, fit_dn n, fit_encN left, _, rfl, ?_⟩
        have hls := len_cnt (sel left n a b ++ r)
        rw [List.length_append] at hls
        refine ite_b (in_dn n left) (fun h => ?_) (fun h => ?_)
        · have es : sel left n a b = b := by unfold sel; rw [if_pos (of_decide_eq_true h)]
          rw [es] at hls hcs oks nes
          refine ⟨encB b, rfl, _, rfl, _, rfl, ?_, ?_⟩
          · rw [List.map_cons, cut_tail, List.length_map, List.length_map]
            omega
          · refine ⟨_, hcs, b ++ r, some (.im (.tup [.str "if", dn n, encB a, encB b])), oks, nes, by omega, ?_, rfl, ?_⟩
            · rw [← hgo, go_cond, es]
            · rw [List.map_cons, cut_tail, ← List.map_append]
              rfl
        · have es : sel left n a b = a := by unfold sel; rw [if_neg (of_decide_eq_false h)]
          rw [es] at hls hcs oks nes
          refine ⟨encB a, rfl, _, rfl, _, rfl, ?_, ?_⟩
          · rw [List.map_cons, cut_tail, List.length_map, List.length_map]
            omega
          · refine ⟨_, hcs, a ++ r, some (.im (.tup [.str "if", dn n, encB a, encB b])), oks, nes, by omega, ?_, rfl, ?_⟩
            · rw [← hgo, go_cond, es]
            · rw [List.map_cons, cut_tail, ← List.map_append]
              rfl
  refine ⟨_, rfl, _, rfl, ?_⟩
  refine ite_b (gt_len todo encD) (fun h => ?_) (fun h => ?_)
  · have h0 : todo.length ≠ 0 := fun e => by rw [e] at h; cases h
    have ef : first book todo = todo := by unfold first; rw [if_neg h0]
    exact ⟨_, rfl, start todo ht (fun e => h0 (by rw [e]; rfl)) ct (by rw [ef])⟩
  · have h0 : todo.length = 0 := by
      cases z : todo.length with
      | zero => rfl
      | succ n => rw [z] at h; cases h
    have ef : first book todo = book := by unfold first; rw [if_pos h0]
    exact ⟨_, rfl, start book hb hb0 cb (by rw [ef])⟩
def ext (n : Nat) : List Nat := (List.range (8 - n)).map (n + ·)
def T_side_of : List D3 → (R3 → Prop) → Prop := fun ds Q => ∃ n book todo left, ds = [encB book, encB todo, encN left, dn n] ∧ n ≤ 4 ∧ left.length ≤ 100 ∧ okL book ∧ book ≠ [] ∧ okL todo ∧ cntB book ≤ 1000 ∧ cntB todo ≤ 1000 ∧
  Q (.im (.tup [sStr (go (left ++ ext n) (first book todo)).1, encB (go (left ++ ext n) (first book todo)).2]))
theorem rg_ext (n : Nat) : rg3 (n : Int) 8 = (ext n).map dn := by
  unfold rg3 ext
  rw [List.map_map]
  have e : ((8 : Int) - (n : Int)).toNat = 8 - n := by omega
  rw [e]
  refine List.map_congr_left ?_
  intro k _
  show D3.int ((n : Int) + (k : Nat)) = D3.int (((n + k : Nat)) : Int)
  rw [Int.natCast_add]
theorem r_side_of {ds : List D3} {Q : R3 → Prop} (h : T_side_of ds Q) : t_side_of T_next_side { nx := fun _ => Q (.im .non), rt := fun r _ => Q r } (start3 N_side_of ds) := by
  obtain ⟨n, book, todo, left, rfl, hn, hl, hb, hb0, ht, cb, ct, q⟩ := h
  have le : (ext n).length ≤ 8 := by unfold ext; rw [List.length_map, List.length_range]; omega
  refine ⟨_, rfl, _, rfl, _, rfl, _, rfl, _, rfl, _, rfl, _, _, rfl, rfl, ⟨by omega, by omega, by decide, by decide⟩, ?_⟩
  have e8 : ((7 : Int) + 1) = 8 := rfl
  rw [e8, rg_ext]
  refine ⟨by rw [List.length_map, List.length_map]; omega, _, rfl, book, todo, left ++ ext n, ?_, hb, hb0, ht, cb, ct, q⟩
  rw [← List.map_append]
  rfl
/-! ### choices -/
def near (s : Bool) (bs : List Pr) (x : Nat) : List Nat := if s = true then ahd bs x else ltr bs x
def chosen (s : Bool) (bs : List Pr) (left : List Nat) : List Nat := left.filter fun x => !((near s bs x).any fun y => decide (y ∈ left))
def T_choices : List D3 → (R3 → Prop) → Prop := fun ds Q => ∃ n bs s left, ds = [webD n bs, sStr s, encN left] ∧ n ≤ 1000 ∧ bs.length ≤ 1000 ∧ left.length ≤ 1000 ∧ (∀ x ∈ left, x < n) ∧ Q (.ls ((chosen s bs left).map dn))
theorem near_len (s : Bool) (bs : List Pr) (x : Nat) : (near s bs x).length ≤ bs.length := by
  unfold near
  split
  · exact ahd_len bs x
  · exact ltr_len bs x
theorem sStr_fit (s : Bool) : (sStr s).fit = true := by
  cases s with
  | true => exact fit_front
  | false => exact fit_back
theorem sStr_eq (s : Bool) : (false ^^ (sStr s).eqb (.str "front")) = s := by
  cases s with
  | true => show (false ^^ (D3.str "front").eqb (.str "front")) = true; rw [s_ff]; rfl
  | false => show (false ^^ (D3.str "back").eqb (.str "front")) = false; rw [s_bf]; rfl
theorem r_choices {ds : List D3} {Q : R3 → Prop} (h : T_choices ds Q) : t_choices { nx := fun _ => Q (.im .non), rt := fun r _ => Q r } (start3 N_choices ds) := by
  obtain ⟨n, bs, s, left, rfl, hn, hb, hl, hx, q⟩ := h
  have rest : seq3 (asg3 (fun ρ K => K (.im (.lst ((List.range n).map fun x => encN (near s bs x)))) ρ) 3) (ret3 (lcT3 (v3 2) (gn3 4) (not3 (tst3 (call1 (boolL fun bs => bs.any id) (lcT3 (op2 ix3 (v3 3) (v3 4)) (gn3 5) yes3 (op2 (in3 false) (v3 5) (v3 2)) [5])))) (v3 4) [4])) { nx := fun _ => Q (.im .non), rt := fun r _ => Q r } (start3 N_choices [webD n bs, sStr s, encN left]) := by
    refine ⟨_, rfl, left.map dn, rfl, comp_enc (l := left) dn_inj (fun x => !((near s bs x).any fun y => decide (y ∈ left))) dn rfl (by omega) (fun x hxl => ?_) q⟩
    have hxn := hx x hxl
    refine ⟨rfl, _, rfl, _, rfl, _, at_range (fun x => encN (near s bs x)) hxn, _, rfl, comp_enc (l := near s bs x) dn_inj (fun _ => true) (fun y => .bl (decide (y ∈ left))) rfl (by have := near_len s bs x; omega) (fun y hy => ?_) ?_⟩
    · refine ⟨rfl, rfl, _, rfl, _, rfl, fit_dn y, fit_encN left, rfl, _, rfl, inv_yes dn_inj rfl ?_⟩
      rw [in_dn]
    · rw [filter_true]
      refine ⟨(near s bs x).map fun y => decide (y ∈ left), by rw [List.map_map]; rfl, _, rfl, rfl, ?_⟩
      have ea : (!((near s bs x).map fun y => decide (y ∈ left)).any id) = !((near s bs x).any fun y => decide (y ∈ left)) := by rw [List.any_map]; rfl
      refine ite_b ea (fun h => ?_) (fun h => ?_)
      · exact ⟨_, rfl, rfl, _, rfl, inv_yes dn_inj h rfl⟩
      · exact inv_no dn_inj h
  refine ⟨_, rfl, sStr_fit s, fit_front, _, rfl, ?_⟩
  refine ite_b (sStr_eq s) (fun h => ?_) (fun h => ?_)
  · subst h
    exact ⟨_, rfl, rest⟩
  · subst h
    exact ⟨_, rfl, rest⟩
end L3

set_option Elab.async false
set_option autoImplicit false
set_option linter.all false
set_option maxRecDepth 100000
/-! L3, part B2: the chances of both sides. -/
namespace L3
open PySem PySem.Spec L2

def chM (n : Nat) (bs : List Pr) (book : List Deed) : Nat → Nat → List Nat → List Deed → Nat
  | 0, b, _, _ => b
  | k + 1, b, left, todo => chM n bs book k (b * (chosen (go (left ++ ext n) (first book todo)).1 bs left).length) (if (go (left ++ ext n) (first book todo)).1 = true then left.drop 1 else left.dropLast) (go (left ++ ext n) (first book todo)).2
theorem chM_zero (n : Nat) (bs : List Pr) (book : List Deed) (b : Nat) (left : List Nat) (todo : List Deed) : chM n bs book 0 b left todo = b := rfl
theorem chM_succ (n : Nat) (bs : List Pr) (book : List Deed) (k b : Nat) (left : List Nat) (todo : List Deed) : chM n bs book (k + 1) b left todo =
    chM n bs book k (b * (chosen (go (left ++ ext n) (first book todo)).1 bs left).length) (if (go (left ++ ext n) (first book todo)).1 = true then left.drop 1 else left.dropLast) (go (left ++ ext n) (first book todo)).2 := rfl
structure Cas (n : Nat) (bs : List Pr) (book : List Deed) (order : List Nat) : Prop where
  hn : n ≤ 4
  hb : bs.length ≤ 1000
  ok : okL book
  ne : book ≠ []
  cb : cntB book ≤ 1000
  ho : order.length ≤ 4
  nd : order.Nodup
  lt : ∀ x ∈ order, x < n
def T_chance : List D3 → (R3 → Prop) → Prop := fun ds Q => ∃ n bs book order, ds = [webD n bs, encB book, encN order] ∧ Cas n bs book order ∧ Q (.im (.tup [dn 1, dn (chM n bs book order.length 1 order book)]))
theorem first_ok {book todo : List Deed} (hb : okL book) (ht : okL todo) : okL (first book todo) := by
  unfold first
  split
  · exact hb
  · exact ht
theorem first_cnt {book todo : List Deed} {m : Nat} (hb : cntB book ≤ m) (ht : cntB todo ≤ m) : cntB (first book todo) ≤ m := by
  unfold first
  split
  · exact hb
  · exact ht
theorem chosen_len (s : Bool) (bs : List Pr) (left : List Nat) : (chosen s bs left).length ≤ left.length := List.length_filter_le _ _
theorem beq0 {n : Nat} (h : (!Nat.beq n 0) = true) : ∃ k, n = k + 1 := by
  cases n with
  | zero => cases h
  | succ k => exact ⟨k, rfl⟩
theorem beq0' {n : Nat} (h : (!Nat.beq n 0) = false) : n = 0 := by
  cases n with
  | zero => rfl
  | succ k => cases h
theorem cmul_ok {b l k : Nat} (h : b * 4 ^ (k + 1) ≤ 256) (hl : l ≤ 4) : CMul (b : Int) (l : Int) ∧ b * l * 4 ^ k ≤ 256 := by
  have e : b * 4 ^ (k + 1) = b * 4 * 4 ^ k := by rw [Nat.pow_succ, Nat.mul_comm (4 ^ k) 4, ← Nat.mul_assoc]
  rw [e] at h
  have h1 : b * l * 4 ^ k ≤ b * 4 * 4 ^ k := Nat.mul_le_mul_right _ (Nat.mul_le_mul_left _ hl)
  have h2 : b ≤ b * 4 * 4 ^ k := by
    have : 0 < 4 ^ k := Nat.pow_pos (by decide)
    calc b ≤ b * 4 := by omega
      _ ≤ b * 4 * 4 ^ k := Nat.le_mul_of_pos_right _ this
  refine ⟨.inl ⟨?_, ?_⟩, by omega⟩
  · have : (-(2 ^ 64) : Int) < 0 := by decide
    omega
  · have : (256 : Int) < 2 ^ 64 := by decide
    omega
theorem mul_dn (b l : Nat) : D3.int ((b : Int) * (l : Int)) = dn (b * l) := by
  unfold dn
  rw [Int.natCast_mul]
theorem map_dropLast (l : List Nat) : (l.map dn).dropLast = l.dropLast.map dn := by rw [List.map_dropLast]
theorem map_drop1 (l : List Nat) : (l.map dn).drop 1 = (l.drop 1).map dn := by rw [List.map_drop]
theorem r_chance {ds : List D3} {Q : R3 → Prop} (h : T_chance ds Q) : t_chance_by T_side_of T_choices { nx := fun _ => Q (.im .non), rt := fun r _ => Q r } (start3 N_chance_by ds) := by
  obtain ⟨n, bs, book, order, rfl, ⟨hn, hb, ok, ne, cb, ho, nd, lt⟩, q⟩ := h
  refine ⟨_, rfl, _, rfl, ?_⟩
  refine ⟨fun m ρ => ∃ b left todo s, m = left.length ∧ left.length ≤ 4 ∧ b * 4 ^ left.length ≤ 256 ∧ (∀ x ∈ left, x < n) ∧ okL todo ∧ cntB todo ≤ 1000 ∧ chM n bs book left.length b left todo = chM n bs book order.length 1 order book ∧
    ρ = [some (.im (webD n bs)), some (.im (encB book)), some (.im (encN order)), some (.im (dn b)), some (.im (encN left)), some (.im (encB todo)), s], ⟨_, 1, order, book, none, rfl, ho, ?_, lt, ok, cb, rfl, rfl⟩, ?_⟩
  · have : 4 ^ order.length ≤ 4 ^ 4 := Nat.pow_le_pow_right (by decide) ho
    have e : (4 : Nat) ^ 4 = 256 := by decide
    omega
  rintro m ρ ⟨b, left, todo, s, rfl, hl, hbd, hlt, hto, hct, hch, rfl⟩
  refine ⟨_, rfl, _, rfl, ?_⟩
  refine ite_b (gt_len left dn) (fun h => ?_) (fun h => ?_)
  · obtain ⟨k, hk⟩ := beq0 h
    rw [hk] at hbd hch
    rw [chM_succ] at hch
    have hgr := go_rest (left ++ ext n) _ (first book todo) (Nat.le_refl _) (first_ok ok hto)
    have hfc := first_cnt cb hct
    refine ⟨_, rfl, _, rfl, _, rfl, _, rfl, _, rfl, _, rfl, _, rfl, _, rfl, n, book, todo, left, rfl, hn, by omega, ok, ne, hto, cb, hct, ?_⟩
    generalize hg : go (left ++ ext n) (first book todo) = g at hch hgr
    obtain ⟨sd, r⟩ := g
    refine ⟨_, rfl, _, _, rfl, ?_⟩
    have hcl := chosen_len sd bs left
    obtain ⟨c1, c2⟩ := cmul_ok (l := (chosen sd bs left).length) hbd (by omega)
    refine ⟨⟨_, rfl⟩, _, rfl, _, rfl, _, rfl, _, rfl, _, rfl, _, rfl, n, bs, sd, left, rfl, by omega, hb, by omega, hlt, ?_⟩
    refine ⟨_, rfl, rfl, ?_⟩
    rw [List.length_map]
    refine ⟨c1, ?_⟩
    refine ⟨_, rfl, sStr_fit sd, fit_front, _, rfl, ?_⟩
    refine ite_b (sStr_eq sd) (fun h => ?_) (fun h => ?_)
    · subst h
      refine ⟨_, rfl, _, rfl, ?_⟩
      rw [cut_drop1, map_drop1]
      refine ⟨k, by omega, b * (chosen true bs left).length, left.drop 1, r, some (.im (sStr true)), by rw [List.length_drop]; omega, by rw [List.length_drop]; omega, ?_, fun x hx => hlt x (List.mem_of_mem_drop hx), hgr.1, by have := hgr.2; show cntB r ≤ 1000; have h2 : cntB r ≤ cntB (first book todo) := this; omega, ?_, ?_⟩
      · have e : (left.drop 1).length = k := by rw [List.length_drop]; omega
        rw [e]
        exact c2
      · have e : (left.drop 1).length = k := by rw [List.length_drop]; omega
        rw [e]
        exact hch
      · rw [← mul_dn]
        rfl
    · subst h
      refine ⟨_, rfl, _, rfl, ?_⟩
      rw [cut_last, map_dropLast]
      refine ⟨k, by omega, b * (chosen false bs left).length, left.dropLast, r, some (.im (sStr false)), by rw [List.length_dropLast]; omega, by rw [List.length_dropLast]; omega, ?_, fun x hx => hlt x (List.dropLast_subset _ hx), hgr.1, by have := hgr.2; show cntB r ≤ 1000; have h2 : cntB r ≤ cntB (first book todo) := this; omega, ?_, ?_⟩
      · have e : left.dropLast.length = k := by rw [List.length_dropLast]; omega
        rw [e]
        exact c2
      · have e : left.dropLast.length = k := by rw [List.length_dropLast]; omega
        rw [e]
        exact hch
      · rw [← mul_dn]
        rfl
  · have h0 := beq0' h
    rw [h0, chM_zero] at hch
    rw [← hch] at q
    exact ⟨_, rfl, _, rfl, _, rfl, by show 2 ≤ 100000; decide, q⟩
/-! ### the same count, told the other way -/
theorem distinct_nodup (ns : List Int) : (distinct ns).Nodup := by
  have : ∀ (ns acc : List Int), acc.Nodup → (ns.foldl PyProof.Rows.step_dedup acc).Nodup := by
    intro ns
    induction ns with
    | nil => intro acc h; exact h
    | cons a ns ih =>
      intro acc h
      rw [List.foldl_cons]
      refine ih _ ?_
      rw [PySem.W.oss_step]
      by_cases m : a ∈ acc
      · rw [if_pos m]
        exact h
      · rw [if_neg m, List.nodup_append]
        refine ⟨h, by simp, fun x hx y hy e => ?_⟩
        rw [List.mem_singleton] at hy
        subst hy e
        exact m hx
  exact this ns [] List.nodup_nil
theorem distinct_mem (ns : List Int) (x : Int) : x ∈ distinct ns ↔ x ∈ ns := PySem.W.oss_has
def hitsL (f : Pr → Nat) (bs : List Pr) (left : List Nat) : List Nat := (bs.filter fun p => decide (p.1 ∈ left) && decide (p.2 ∈ left)).map f
def ends (s : Bool) : Pr → Nat := fun p => if s = true then p.2 else p.1
theorem near_hit (s : Bool) (bs : List Pr) (left : List Nat) (x : Nat) (hx : x ∈ left) : ((near s bs x).any fun y => decide (y ∈ left)) = true ↔ x ∈ hitsL (ends s) bs left := by
  unfold hitsL ends
  rw [List.any_eq_true, List.mem_map]
  cases s with
  | true =>
    show (∃ y, y ∈ ahd bs x ∧ _) ↔ _
    unfold ahd
    constructor
    · rintro ⟨y, hy, h⟩
      obtain ⟨p, hp, rfl⟩ := List.mem_map.mp hy
      obtain ⟨h1, h2⟩ := List.mem_filter.mp hp
      have h2 := of_decide_eq_true h2
      refine ⟨p, List.mem_filter.mpr ⟨h1, ?_⟩, h2⟩
      rw [h, h2, decide_eq_true hx]
      rfl
    · rintro ⟨p, hp, e⟩
      have e : p.2 = x := e
      obtain ⟨h1, h2⟩ := List.mem_filter.mp hp
      rw [Bool.and_eq_true] at h2
      exact ⟨p.1, List.mem_map.mpr ⟨p, List.mem_filter.mpr ⟨h1, decide_eq_true e⟩, rfl⟩, h2.1⟩
  | false =>
    show (∃ y, y ∈ ltr bs x ∧ _) ↔ _
    unfold ltr
    constructor
    · rintro ⟨y, hy, h⟩
      obtain ⟨p, hp, rfl⟩ := List.mem_map.mp hy
      obtain ⟨h1, h2⟩ := List.mem_filter.mp hp
      have h2 := of_decide_eq_true h2
      refine ⟨p, List.mem_filter.mpr ⟨h1, ?_⟩, h2⟩
      rw [h, h2, decide_eq_true hx]
      rfl
    · rintro ⟨p, hp, e⟩
      have e : p.1 = x := e
      obtain ⟨h1, h2⟩ := List.mem_filter.mp hp
      rw [Bool.and_eq_true] at h2
      exact ⟨p.2, List.mem_map.mpr ⟨p, List.mem_filter.mpr ⟨h1, decide_eq_true e⟩, rfl⟩, h2.2⟩
theorem hits_in (s : Bool) (bs : List Pr) (left : List Nat) {x : Nat} (h : x ∈ hitsL (ends s) bs left) : x ∈ left := by
  unfold hitsL ends at h
  rcases List.mem_map.mp h with ⟨p, hp, rfl⟩
  obtain ⟨_, h2⟩ := List.mem_filter.mp hp
  rw [Bool.and_eq_true] at h2
  cases s with
  | true => exact of_decide_eq_true h2.2
  | false => exact of_decide_eq_true h2.1
theorem filter_both {α : Type} (t : α → Bool) : ∀ l : List α, (l.filter t).length + (l.filter fun x => !t x).length = l.length
  | [] => rfl
  | a :: l => by
    have ih := filter_both t l
    cases h : t a with
    | true => simp [h]; omega
    | false => simp [h]; omega
theorem count_eq (s : Bool) (bs : List Pr) (left : List Nat) (nd : left.Nodup) : (distinct ((hitsL (ends s) bs left).map fun x : Nat => (x : Int))).length + (chosen s bs left).length = left.length := by
  have h1 := filter_both (fun x => (near s bs x).any fun y => decide (y ∈ left)) left
  have hp : (distinct ((hitsL (ends s) bs left).map fun x : Nat => (x : Int))).Perm ((left.filter fun x => (near s bs x).any fun y => decide (y ∈ left)).map fun x : Nat => (x : Int)) := by
    refine (List.perm_ext_iff_of_nodup (distinct_nodup _) ?_).mpr fun x => ?_
    · refine List.Pairwise.map _ ?_ (nd.filter _)
      intro a b hab e
      exact hab (by omega)
    · rw [distinct_mem, List.mem_map, List.mem_map]
      constructor
      · rintro ⟨y, hy, rfl⟩
        have hl := hits_in s bs left hy
        exact ⟨y, List.mem_filter.mpr ⟨hl, (near_hit s bs left y hl).mpr hy⟩, rfl⟩
      · rintro ⟨y, hy, rfl⟩
        obtain ⟨hl, h2⟩ := List.mem_filter.mp hy
        exact ⟨y, (near_hit s bs left y hl).mp h2, rfl⟩
  have h2 := hp.length_eq
  rw [List.length_map] at h2
  unfold chosen
  omega
theorem mem_ext (n x : Nat) (hx : x < 8) : x ∈ ext n ↔ n ≤ x := by
  unfold ext
  rw [List.mem_map]
  constructor
  · rintro ⟨k, _, rfl⟩
    omega
  · intro h
    exact ⟨x - n, List.mem_range.mpr (by omega), by omega⟩
theorem sel_law (left : List Nat) (n x : Nat) (a b : List Deed) (hx : x < 8) : sel (left ++ ext n) x a b = if x < n ∧ x ∉ left then a else b := by
  unfold sel
  by_cases h : x < n ∧ x ∉ left
  · rw [if_pos h, if_neg]
    intro m
    rcases List.mem_append.mp m with m | m
    · exact h.2 m
    · have := (mem_ext n x hx).mp m
      omega
  · rw [if_neg h, if_pos]
    by_cases hl : x ∈ left
    · exact List.mem_append_left _ hl
    · exact List.mem_append_right _ ((mem_ext n x hx).mpr (by
        by_cases hn : x < n
        · exact absurd ⟨hn, hl⟩ h
        · omega))
/-! ### _law_by_book -/
def T_law_by_book : List D3 → (R3 → Prop) → Prop := fun ds Q => ∃ n bs book order, ds = [encW bs, dn n, encB book, encN order] ∧ Cas n bs book order ∧ Q (.im (.tup [dn 1, dn (chM n bs book order.length 1 order book)]))
def stB (n : Nat) (bs : List Pr) (book : List Deed) (order : List Nat) (b : Nat) (left : List Nat) (todo : List Deed) (d : Option R3) : Rho :=
  [some (.im (encW bs)), some (.im (dn n)), some (.im (encB book)), some (.im (encN order)), some (.im (dn b)), some (.ls (left.map dn)), some (.ls (todo.map encD)), d, none, none]
theorem eq_len {α β : Type} (l : List α) (f : α → β) : (false ^^ (dn (l.map f).length).eqb (dn 0)) = Nat.beq l.length 0 := by rw [eq_dn, List.length_map]
theorem r_law_by_book {ds : List D3} {Q : R3 → Prop} (h : T_law_by_book ds Q) : t__law_by_book { nx := fun _ => Q (.im .non), rt := fun r _ => Q r } (start3 N__law_by_book ds) := by
  obtain ⟨n, bs, book, order, rfl, ⟨hn, hb, ok, ne, cb, ho, nd, lt⟩, q⟩ := h
  refine ⟨_, rfl, _, rfl, ?_⟩
  refine ⟨fun m ρ => ∃ b left todo d, left.length ≤ 4 ∧ b * 4 ^ left.length ≤ 256 ∧ left.Nodup ∧ (∀ x ∈ left, x < n) ∧ okL todo ∧ cntB todo ≤ 1000 ∧ chM n bs book left.length b left todo = chM n bs book order.length 1 order book ∧
    m = left.length * 2000 + cntB (first book todo) ∧ ρ = stB n bs book order b left todo d, ⟨_, 1, order, book, none, ho, ?_, nd, lt, ok, cb, rfl, rfl, rfl⟩, ?_⟩
  · have : 4 ^ order.length ≤ 4 ^ 4 := Nat.pow_le_pow_right (by decide) ho
    have e : (4 : Nat) ^ 4 = 256 := by decide
    omega
  rintro m ρ ⟨b, left, todo, d, hl, hbd, hnd, hlt, hto, hct, hch, rfl, rfl⟩
  refine ⟨_, rfl, _, rfl, ?_⟩
  refine ite_b (gt_len left dn) (fun h => ?_) (fun h => ?_)
  · obtain ⟨k, hk⟩ := beq0 h
    have hch0 := hch
    rw [hk] at hbd hch
    rw [chM_succ] at hch
    have hfc := first_cnt cb hct
    have main : seq3 (asg3 (pop0 6) 7)
        (ifS3 (tst3 (op2 (eq3 false) (op2 ix3 (v3 7) (c3 (.int 0))) (c3 (.str "if")))) (asg3 (op2 add3 (call1 list3 (if3 (and3 (tst3 (op2 lt3 (op2 ix3 (v3 7) (c3 (.int 1))) (v3 1))) (tst3 (op2B (in3 true) (op2 ix3 (v3 7) (c3 (.int 1))) 5))) (op2 ix3 (v3 7) (c3 (.int 2))) (op2 ix3 (v3 7) (c3 (.int 3))))) (mv3 6)) 6) (ifS3 (tst3 (op2 (eq3 false) (op2 ix3 (v3 7) (c3 (.int 0))) (c3 (.str "front")))) (seq3 (asg3 (op2 (int2 CMul fun i j => .int (i * j)) (v3 4) (op2 (int20 fun i j => .int (i - j)) (call1B len3 5) (lenSet3 (lcT3 (v3 0) (gp3 8 9) (and3 (tst3 (op2B (in3 false) (v3 8) 5)) (tst3 (op2B (in3 false) (v3 9) 5))) (v3 9) [8, 9])))) 4)
        (drop3 (pop0 5))) (seq3 (asg3 (op2 (int2 CMul fun i j => .int (i * j)) (v3 4) (op2 (int20 fun i j => .int (i - j)) (call1B len3 5) (lenSet3 (lcT3 (v3 0) (gp3 8 9) (and3 (tst3 (op2B (in3 false) (v3 8) 5)) (tst3 (op2B (in3 false) (v3 9) 5))) (v3 8) [8, 9])))) 4)
        (drop3 (pop3 5)))))
        { nx := fun ρ' => ∃ m', m' < left.length * 2000 + cntB (first book todo) ∧ ∃ b left todo d, left.length ≤ 4 ∧ b * 4 ^ left.length ≤ 256 ∧ left.Nodup ∧ (∀ x ∈ left, x < n) ∧ okL todo ∧ cntB todo ≤ 1000 ∧ chM n bs book left.length b left todo = chM n bs book order.length 1 order book ∧ m' = left.length * 2000 + cntB (first book todo) ∧ ρ' = stB n bs book order b left todo d, rt := fun r _ => Q r }
        (stB n bs book order b left (first book todo) d) := by
      have hfo := first_ok ok hto
      cases hfr : first book todo with
      | nil =>
        exfalso
        unfold first at hfr
        split at hfr
        · exact ne hfr
        · rename_i hh
          rw [hfr] at hh
          exact hh rfl
      | cons dd r =>
      rw [hfr] at hfo hfc
      have hlr := len_cnt (dd :: r)
      have hrc : cntB r ≤ 1000 := by rw [cntB_cons] at hfc; omega
      cases dd with
      | front =>
        have e : encD .front = .tup [.str "front"] := by unfold encD; rfl
        have eg : go (left ++ ext n) (first book todo) = (true, r) := by rw [hfr]; exact go_front _ r
        rw [eg] at hch
        have hgr := go_rest (left ++ ext n) _ (first book todo) (Nat.le_refl _) (first_ok ok hto)
        rw [eg] at hgr
        have hcl := chosen_len true bs left
        obtain ⟨c1, c2⟩ := cmul_ok (l := (chosen true bs left).length) hbd (by omega)
        have hce := count_eq true bs left hnd
        refine ⟨encD .front, r.map encD, rfl, ?_⟩
        rw [e]
        refine ⟨_, rfl, _, rfl, fit_front, fit_if, _, rfl, ?_⟩
        refine ite_b (c := false) (by rw [s_fi]; rfl) (fun h => by cases h) (fun _ => ?_)
        refine ⟨_, rfl, _, rfl, fit_front, fit_front, _, rfl, ?_⟩
        refine ite_b (c := true) (by rw [s_ff]; rfl) (fun _ => ?_) (fun h => by cases h)
        refine ⟨_, rfl, _, rfl, _, rfl, bs.map encP, rfl, comp_enc (l := bs) encP_inj (fun p => decide (p.1 ∈ left) && decide (p.2 ∈ left)) (fun p => dn (p.2)) rfl (by omega) (fun p hp => ?_) ?_⟩
        · refine ⟨_, _, rfl, rfl, _, rfl, _, rfl, fit_dn _, fit_lstN left, _, rfl, ?_⟩
          refine ite_b (in_dn p.1 left) (fun h1 => ?_) (fun h1 => ?_)
          · refine ⟨_, rfl, _, rfl, fit_dn _, fit_lstN left, _, rfl, rfl, ?_⟩
            refine ite_b (in_dn p.2 left) (fun h2 => ?_) (fun h2 => ?_)
            · exact ⟨_, rfl, rfl, _, rfl, inv_yes encP_inj (by rw [h1, h2]; rfl) rfl⟩
            · exact inv_no encP_inj (by rw [h1, h2]; rfl)
          · refine ⟨rfl, ?_⟩
            refine iteF ?_
            exact inv_no encP_inj (by rw [h1]; rfl)
        · have ehit : ((bs.filter fun p => decide (p.1 ∈ left) && decide (p.2 ∈ left)).map fun p => dn (p.2)) = ((hitsL (ends true) bs left).map fun x : Nat => (x : Int)).map D3.int := by
            unfold hitsL
            rw [List.map_map]; rw [List.map_map]
            rfl
          have hhl : (hitsL (ends true) bs left).length ≤ 1000 := by
            unfold hitsL
            rw [List.length_map]
            exact Nat.le_trans (List.length_filter_le _ _) hb
          refine ⟨(hitsL (ends true) bs left).map fun x : Nat => (x : Int), by show some _ = some _; rw [ehit], by rw [List.length_map]; omega, ?_⟩
          have ec : ((left.map dn).length : Int) - ((distinct ((hitsL (ends true) bs left).map fun x : Nat => (x : Int))).length : Nat) = ((chosen true bs left).length : Nat) := by
            rw [List.length_map]
            omega
          show (CMul (b : Int) (((left.map dn).length : Int) - ((distinct ((hitsL (ends true) bs left).map fun x : Nat => (x : Int))).length : Nat))) ∧ _
          rw [ec]
          refine ⟨c1, ?_⟩
          cases left with
          | nil => cases hk
          | cons x l =>
            refine ⟨dn x, l.map dn, rfl, ?_⟩
            have hlk : l.length = k := by simpa using hk
            refine ⟨_, ?_, b * (chosen true bs (x :: l)).length, l, r, some (.im (.tup [.str "front"])), by rw [List.length_cons] at hl; omega, by rw [hlk]; exact c2, (List.nodup_cons.mp hnd).2, fun y hy => hlt y (List.mem_cons_of_mem _ hy), hgr.1, hrc, by rw [hlk]; exact hch, rfl, ?_⟩
            · rw [hlk, hk]
              have := first_cnt cb hrc
              omega
            · unfold stB
              rw [← mul_dn]
              rfl
      | back =>
        have e : encD .back = .tup [.str "back"] := by unfold encD; rfl
        have eg : go (left ++ ext n) (first book todo) = (false, r) := by rw [hfr]; exact go_back _ r
        rw [eg] at hch
        have hgr := go_rest (left ++ ext n) _ (first book todo) (Nat.le_refl _) (first_ok ok hto)
        rw [eg] at hgr
        have hcl := chosen_len false bs left
        obtain ⟨c1, c2⟩ := cmul_ok (l := (chosen false bs left).length) hbd (by omega)
        have hce := count_eq false bs left hnd
        refine ⟨encD .back, r.map encD, rfl, ?_⟩
        rw [e]
        refine ⟨_, rfl, _, rfl, fit_back, fit_if, _, rfl, ?_⟩
        refine ite_b (c := false) (by rw [s_bi]; rfl) (fun h => by cases h) (fun _ => ?_)
        refine ⟨_, rfl, _, rfl, fit_back, fit_front, _, rfl, ?_⟩
        refine ite_b (c := false) (by rw [s_bf]; rfl) (fun h => by cases h) (fun _ => ?_)
        refine ⟨_, rfl, _, rfl, _, rfl, bs.map encP, rfl, comp_enc (l := bs) encP_inj (fun p => decide (p.1 ∈ left) && decide (p.2 ∈ left)) (fun p => dn (p.1)) rfl (by omega) (fun p hp => ?_) ?_⟩
        · refine ⟨_, _, rfl, rfl, _, rfl, _, rfl, fit_dn _, fit_lstN left, _, rfl, ?_⟩
          refine ite_b (in_dn p.1 left) (fun h1 => ?_) (fun h1 => ?_)
          · refine ⟨_, rfl, _, rfl, fit_dn _, fit_lstN left, _, rfl, rfl, ?_⟩
            refine ite_b (in_dn p.2 left) (fun h2 => ?_) (fun h2 => ?_)
            · exact ⟨_, rfl, rfl, _, rfl, inv_yes encP_inj (by rw [h1, h2]; rfl) rfl⟩
            · exact inv_no encP_inj (by rw [h1, h2]; rfl)
          · refine ⟨rfl, ?_⟩
            refine iteF ?_
            exact inv_no encP_inj (by rw [h1]; rfl)
        · have ehit : ((bs.filter fun p => decide (p.1 ∈ left) && decide (p.2 ∈ left)).map fun p => dn (p.1)) = ((hitsL (ends false) bs left).map fun x : Nat => (x : Int)).map D3.int := by
            unfold hitsL
            rw [List.map_map]; rw [List.map_map]
            rfl
          have hhl : (hitsL (ends false) bs left).length ≤ 1000 := by
            unfold hitsL
            rw [List.length_map]
            exact Nat.le_trans (List.length_filter_le _ _) hb
          refine ⟨(hitsL (ends false) bs left).map fun x : Nat => (x : Int), by show some _ = some _; rw [ehit], by rw [List.length_map]; omega, ?_⟩
          have ec : ((left.map dn).length : Int) - ((distinct ((hitsL (ends false) bs left).map fun x : Nat => (x : Int))).length : Nat) = ((chosen false bs left).length : Nat) := by
            rw [List.length_map]
            omega
          show (CMul (b : Int) (((left.map dn).length : Int) - ((distinct ((hitsL (ends false) bs left).map fun x : Nat => (x : Int))).length : Nat))) ∧ _
          rw [ec]
          refine ⟨c1, ?_⟩
          have hne : left ≠ [] := fun z => by rw [z] at hk; cases hk
          have hsp : left.map dn = left.dropLast.map dn ++ [dn (left.getLast hne)] := by
            rw [← map_dropLast]
            have h1 : left.dropLast ++ [left.getLast hne] = left := List.dropLast_concat_getLast hne
            have h2 := congrArg (List.map dn) h1
            rw [List.map_append] at h2
            rw [map_dropLast]
            exact h2.symm
          have hlk : left.dropLast.length = k := by rw [List.length_dropLast]; omega
          refine ⟨left.dropLast.map dn, dn (left.getLast hne), by show some (some (R3.ls (left.map dn))) = _; rw [hsp], ?_⟩
          refine ⟨_, ?_, b * (chosen false bs left).length, left.dropLast, r, some (.im (.tup [.str "back"])), by omega, by rw [hlk]; exact c2, hnd.sublist (List.dropLast_sublist left), fun y hy => hlt y (List.dropLast_subset _ hy), hgr.1, hrc, by rw [hlk]; exact hch, rfl, ?_⟩
          · rw [hlk, hk]
            have := first_cnt cb hrc
            omega
          · unfold stB
            rw [← mul_dn]
            rfl
      | cond x a a2 =>
        have e := encD_cond x a a2
        obtain ⟨hx, ha, hb2, oks, nes⟩ := okL_cond hfo (left ++ ext n)
        have hcs := sel_cnt (left ++ ext n) x a a2 r
        have hls := len_cnt (sel (left ++ ext n) x a a2 ++ r)
        rw [List.length_append] at hls
        have hsl := sel_law left n x a a2 hx
        have ffs : first book (sel (left ++ ext n) x a a2 ++ r) = sel (left ++ ext n) x a a2 ++ r := by
          unfold first
          rw [if_neg]
          intro z
          exact nes (List.eq_nil_of_length_eq_zero z)
        have ech : chM n bs book left.length b left (sel (left ++ ext n) x a a2 ++ r) = chM n bs book order.length 1 order book := by
          rw [← hch0, hk, chM_succ, chM_succ, ffs, hfr, go_cond]
        generalize hsel : sel (left ++ ext n) x a a2 = sl at hcs hls hsl ffs ech oks nes
        refine ⟨encD (.cond x a a2), r.map encD, rfl, ?_⟩
        rw [e]
        refine ⟨_, rfl, _, rfl, fit_if, fit_if, _, rfl, ?_⟩
        refine ite_b (c := true) (by rw [s_ii]; rfl) (fun _ => ?_) (fun h => by cases h)
        have fin : ∀ ρ', ρ' = stB n bs book order b left (sl ++ r) (some (.im (.tup [.str "if", dn x, encB a, encB a2]))) → ∃ m', m' < left.length * 2000 + cntB (.cond x a a2 :: r) ∧ ∃ b left todo d, left.length ≤ 4 ∧ b * 4 ^ left.length ≤ 256 ∧ left.Nodup ∧ (∀ x ∈ left, x < n) ∧ okL todo ∧ cntB todo ≤ 1000 ∧ chM n bs book left.length b left todo = chM n bs book order.length 1 order book ∧ m' = left.length * 2000 + cntB (first book todo) ∧ ρ' = stB n bs book order b left todo d := fun ρ' eρ => by
          refine ⟨_, ?_, b, left, sl ++ r, _, hl, by rw [hk]; exact hbd, hnd, hlt, oks, by omega, ech, rfl, eρ⟩
          rw [ffs]
          omega
        refine ⟨_, rfl, _, rfl, _, rfl, _, rfl, ?_⟩
        refine ite_b (c := decide ((x : Int) < (n : Int))) rfl (fun h1 => ?_) (fun h1 => ?_)
        · have h1 := of_decide_eq_true h1
          refine ⟨_, rfl, _, rfl, _, rfl, fit_dn x, fit_lstN left, _, rfl, ?_⟩
          refine ite_b (notin_dn x left) (fun h2 => ?_) (fun h2 => ?_)
          · rw [Bool.not_eq_true', decide_eq_false_iff_not] at h2
            rw [if_pos ⟨by omega, h2⟩] at hsl
            subst hsl
            refine ⟨_, rfl, _, rfl, _, rfl, rfl, by rw [List.length_map, List.length_map]; omega, fin _ ?_⟩
            unfold stB
            rw [List.map_append]
            rfl
          · rw [Bool.not_eq_false', decide_eq_true_iff] at h2
            rw [if_neg (fun z => z.2 h2)] at hsl
            subst hsl
            refine ⟨_, rfl, _, rfl, _, rfl, rfl, by rw [List.length_map, List.length_map]; omega, fin _ ?_⟩
            unfold stB
            rw [List.map_append]
            rfl
        · have h1 := of_decide_eq_false h1
          rw [if_neg (fun z => h1 (by omega))] at hsl
          subst hsl
          refine iteF ?_
          refine ⟨_, rfl, _, rfl, _, rfl, rfl, by rw [List.length_map, List.length_map]; omega, fin _ ?_⟩
          unfold stB
          rw [List.map_append]
          rfl
    refine ⟨_, rfl, fit_dn _, fit_dn 0, _, rfl, ?_⟩
    refine ite_b (eq_len todo encD) (fun h => ?_) (fun h => ?_)
    · have h0 : todo.length = 0 := by simpa using h
      have ef : first book todo = book := by unfold first; rw [if_pos h0]
      rw [ef] at main
      refine ⟨_, rfl, ?_⟩
      rw [ef]
      exact main
    · have h0 : todo.length ≠ 0 := fun z => by rw [z] at h; cases h
      have ef : first book todo = todo := by unfold first; rw [if_neg h0]
      rw [ef] at main
      rw [ef]
      exact main
  · have h0 := beq0' h
    rw [h0, chM_zero] at hch
    rw [← hch] at q
    exact ⟨_, rfl, _, rfl, _, rfl, by show 2 ≤ 100000; decide, q⟩
end L3

set_option Elab.async false
set_option autoImplicit false
set_option linter.all false
set_option maxRecDepth 100000
/-! L3, part B3: the first place where two books part. -/
namespace L3
open PySem PySem.Spec L2

abbrev Ans := Option (Nat × List Pr × List Nat)
def parted (one other : List Deed) (n : Nat) (bs : List Pr) (o : List Nat) : Bool := !Nat.beq (chM n bs one o.length 1 o one) (chM n bs other o.length 1 o other)
def fo (one other : List Deed) (n : Nat) (bs : List Pr) (o : List Nat) : Ans := if parted one other n bs o = true then some (n, bs, o) else none
def fw (one other : List Deed) (p : Nat × List Pr) : Ans := (ordM p.1 p.2 p.1).findSome? (fo one other p.1 p.2)
def websL (m : Nat) : List (Nat × List Pr) := (List.range m).flatMap fun j => (lv (j + 1)).map fun bs => (j + 1, bs)
def ansP (m : Nat) (one other : List Deed) : Ans := (websL m).findSome? (fw one other)
def fn' (one other : List Deed) (i : Nat) : Ans := (lv (i + 1)).findSome? fun bs => fw one other (i + 1, bs)
theorem some_map {α β γ : Type} (f : α → β) (g : β → Option γ) : ∀ l : List α, (l.map f).findSome? g = l.findSome? fun a => g (f a)
  | [] => rfl
  | a :: l => by rw [List.map_cons, List.findSome?_cons, List.findSome?_cons, some_map f g l]
theorem some_flat {α β γ : Type} (f : α → List β) (g : β → Option γ) : ∀ l : List α, (l.flatMap f).findSome? g = l.findSome? fun a => (f a).findSome? g
  | [] => rfl
  | a :: l => by
    rw [List.flatMap_cons, List.findSome?_append, List.findSome?_cons, some_flat f g l]
    cases (f a).findSome? g <;> rfl
theorem ans_law (m : Nat) (one other : List Deed) : ansP m one other = (List.range m).findSome? (fn' one other) := by
  unfold ansP websL
  rw [some_flat]
  congr 1
  funext i
  rw [some_map]
  rfl
theorem parted_comm (one other : List Deed) (n : Nat) (bs : List Pr) (o : List Nat) : parted one other n bs o = parted other one n bs o := by
  unfold parted
  rw [beq_dec, beq_dec]
  congr 1
  rw [Bool.eq_iff_iff, decide_eq_true_iff, decide_eq_true_iff]
  exact ⟨Eq.symm, Eq.symm⟩
theorem ans_comm (m : Nat) (one other : List Deed) : ansP m one other = ansP m other one := by
  unfold ansP
  congr 1
  funext p
  unfold fw
  congr 1
  funext o
  unfold fo
  rw [parted_comm]
theorem drop_some {α β : Type} {f : α → Option β} {l : List α} {i : Nat} {a : α} (h : l[i]? = some a) : (l.drop i).findSome? f = (f a).or ((l.drop (i + 1)).findSome? f) := by
  rcases List.getElem?_eq_some_iff.mp h with ⟨hi, e⟩
  rw [List.drop_eq_getElem_cons hi, e, List.findSome?_cons]
  cases f a <;> rfl
theorem webs_len' {n : Nat} (ev : EvOk n) {bs : List Pr} (h : bs ∈ lv n) : bs.length ≤ 1000 := by
  rw [← ev.e] at h
  unfold evP at h
  obtain ⟨b, hb, rfl⟩ := List.mem_map.mp h
  have := ev.ls b ((isort_perm leW _).mem_iff.mp hb)
  rw [isort_len]
  omega
theorem cas_of {n : Nat} (ev : EvOk n) (hn : n ≤ 4) {bs : List Pr} (h : bs ∈ lv n) {o : List Nat} (ho : o ∈ ordM n bs n) {book : List Deed} (ok : okB 5 book) (cb : cntB book ≤ 40) : Cas n bs book o := by
  obtain ⟨h1, h2, h3⟩ := ordM_row ho
  exact ⟨hn, webs_len' ev h, fun d hd => ⟨5, ok.2 d hd⟩, ok.1, by omega, by omega, h2, h3⟩
def toldD : Ans → D3
  | none => .non
  | some (n, bs, o) => .tup [webD n bs, encN o]
def dueD : Ans → D3
  | none => .non
  | some (n, bs, o) => .tup [dn n, encW bs, encN o]
structure Two (m : Nat) (one other : List Deed) : Prop where
  m1 : 1 ≤ m
  m4 : m ≤ 4
  ev : ∀ n, 1 ≤ n → n ≤ m → EvOk n
  ok1 : okB 5 one
  c1 : cntB one ≤ 40
  ok2 : okB 5 other
  c2 : cntB other ≤ 40
def T_books_part : List D3 → (R3 → Prop) → Prop := fun ds Q => ∃ m one other, ds = [encB one, encB other, dn m] ∧ Two m one other ∧ Q (.im (toldD (ansP m one other)))
theorem websM_L (m : Nat) : websM m = (websL m).map fun p => webD p.1 p.2 := by
  unfold websM websL
  rw [List.map_flatMap]
  congr 1
  funext j
  rw [List.map_map]
  rfl
theorem websL_mem {m : Nat} {p : Nat × List Pr} (h : p ∈ websL m) : 1 ≤ p.1 ∧ p.1 ≤ m ∧ p.2 ∈ lv p.1 := by
  obtain ⟨j, hj, h2⟩ := List.mem_flatMap.mp h
  obtain ⟨bs, hb, rfl⟩ := List.mem_map.mp h2
  have := List.mem_range.mp hj
  exact ⟨by show 1 ≤ j + 1; omega, by show j + 1 ≤ m; omega, hb⟩
theorem ne_ch (a b : Nat) : (true ^^ (encP (1, a)).eqb (encP (1, b))) = !Nat.beq a b := by
  rw [Bool.true_xor, eqb_encP]
  rfl
theorem r_books_part {ds : List D3} {Q : R3 → Prop} (h : T_books_part ds Q) : t_books_part T_check_book T_check_number T_chance T_all_orders T_webs_up_to { nx := fun _ => Q (.im .non), rt := fun r _ => Q r } (start3 N_books_part ds) := by
  obtain ⟨m, one, other, rfl, ⟨m1, m4, ev, ok1, c1, ok2, c2⟩, q⟩ := h
  refine ⟨_, rfl, _, rfl, one, rfl, ok1, c1, ?_⟩
  refine ⟨_, rfl, _, rfl, other, rfl, ok2, c2, ?_⟩
  refine ⟨_, rfl, _, rfl, _, rfl, _, rfl, (m : Nat), 1, 4, rfl, by omega, by omega, ?_⟩
  refine ⟨_, rfl, _, rfl, m, rfl, m4, ev, _, rfl, ?_⟩
  rw [websM_L]
  refine ⟨fun i ρ => ansP m one other = ((websL m).drop i).findSome? (fw one other) ∧ ∃ a b, ρ = [some (.im (encB one)), some (.im (encB other)), some (.im (dn m)), a, b], ⟨rfl, _, _, rfl⟩, ?_, ?_⟩
  · rintro i d ρ hd ⟨ha, a, b, rfl⟩
    obtain ⟨⟨n, bs⟩, hp, rfl⟩ := map_at hd
    obtain ⟨n1, nm, hbs⟩ := websL_mem (List.mem_of_getElem? hp)
    have evn := ev n n1 nm
    have hn4 : n ≤ 4 := Nat.le_trans nm m4
    rw [drop_some hp] at ha
    refine ⟨_, rfl, _, rfl, n, bs, rfl, hn4, webs_len' evn hbs, _, rfl, ?_⟩
    refine ⟨fun j ρ => ansP m one other = (((ordM n bs n).drop j).findSome? (fo one other n bs)).or (((websL m).drop (i + 1)).findSome? (fw one other)) ∧ ∃ b, ρ = [some (.im (encB one)), some (.im (encB other)), some (.im (dn m)), some (.im (webD n bs)), b], ⟨ha, _, rfl⟩, ?_, ?_⟩
    · rintro j d ρ hd ⟨hj, b, rfl⟩
      obtain ⟨o, ho, rfl⟩ := map_at hd
      have hm := List.mem_of_getElem? ho
      rw [drop_some ho] at hj
      refine ⟨_, rfl, _, rfl, _, rfl, _, rfl, _, rfl, _, rfl, n, bs, one, o, rfl, cas_of evn hn4 hbs hm ok1 c1, ?_⟩
      refine ⟨_, rfl, _, rfl, _, rfl, _, rfl, _, rfl, _, rfl, n, bs, other, o, rfl, cas_of evn hn4 hbs hm ok2 c2, ?_⟩
      refine ⟨fit_encP (1, _), fit_encP (1, _), _, rfl, ?_⟩
      refine ite_b (ne_ch (chM n bs one o.length 1 o one) (chM n bs other o.length 1 o other)) (fun h => ?_) (fun h => ?_)
      · have e : fo one other n bs o = some (n, bs, o) := by unfold fo; rw [if_pos (show parted one other n bs o = true from h)]
        rw [e] at hj
        have e2 : ansP m one other = some (n, bs, o) := hj
        rw [e2] at q
        exact ⟨_, rfl, _, rfl, _, rfl, _, rfl, by show 2 ≤ 100000; decide, q⟩
      · have e : fo one other n bs o = none := by
          unfold fo
          rw [if_neg]
          intro z
          have z : (!Nat.beq (chM n bs one o.length 1 o one) (chM n bs other o.length 1 o other)) = true := z
          rw [h] at z
          cases z
        rw [e] at hj
        exact ⟨hj, _, rfl⟩
    · rintro ρ ⟨hj, b, rfl⟩
      rw [List.length_map, List.drop_length] at hj
      exact ⟨hj, _, _, rfl⟩
  · rintro ρ ⟨ha, a, b, rfl⟩
    rw [List.length_map, List.drop_length] at ha
    have e2 : ansP m one other = none := ha
    rw [e2] at q
    exact q
/-! ### _law_first_parted -/
def T_first_parted : List D3 → (R3 → Prop) → Prop := fun ds Q => ∃ m one other, ds = [encB one, encB other, dn m] ∧ Two m one other ∧ Q (.im (dueD (ansP m one other)))
theorem range_at {m i : Nat} (h : i < m) : (List.range m)[i]? = some i := List.getElem?_range h
theorem r_first_parted {ds : List D3} {Q : R3 → Prop} (h : T_first_parted ds Q) : t__law_first_parted T_law_by_book T_law_orders T_law_every { nx := fun _ => Q (.im .non), rt := fun r _ => Q r } (start3 N__law_first_parted ds) := by
  obtain ⟨m, one, other, rfl, ⟨m1, m4, ev, ok1, c1, ok2, c2⟩, q⟩ := h
  have hlaw := ans_law m one other
  refine ⟨_, rfl, 1, m + 1, rfl, rfl, by omega, by omega, fun i ρ => ansP m one other = ((List.range m).drop i).findSome? (fn' one other) ∧ ∃ a b c, ρ = [some (.im (encB one)), some (.im (encB other)), some (.im (dn m)), a, b, c], ⟨hlaw, _, _, _, rfl⟩, ?_, ?_⟩
  · rintro i d ρ hd ⟨ha, a, b, c, rfl⟩
    obtain ⟨hi, rfl⟩ := rg2_at hd
    have hi' : i < m := by omega
    rw [drop_some (range_at hi')] at ha
    have e1 : 1 + i = i + 1 := Nat.add_comm _ _
    rw [e1]
    have evn := ev (i + 1) (by omega) (by omega)
    generalize hn : i + 1 = n at evn
    have hn4 : n ≤ 4 := by omega
    have ha' : ansP m one other = ((lv n).findSome? fun bs => fw one other (n, bs)).or (((List.range m).drop (i + 1)).findSome? (fn' one other)) := by rw [← hn]; exact ha
    refine ⟨_, rfl, _, rfl, n, rfl, by omega, hn4, _, rfl, ?_⟩
    refine ⟨fun j ρ => ansP m one other = (((lv n).drop j).findSome? fun bs => fw one other (n, bs)).or (((List.range m).drop (i + 1)).findSome? (fn' one other)) ∧ ∃ b c, ρ = [some (.im (encB one)), some (.im (encB other)), some (.im (dn m)), some (.im (dn n)), b, c], ⟨ha', _, _, rfl⟩, ?_, ?_⟩
    · rintro j d ρ hd ⟨hj, b, c, rfl⟩
      obtain ⟨bs, hb, rfl⟩ := map_at hd
      have hbs := List.mem_of_getElem? hb
      rw [drop_some hb] at hj
      refine ⟨_, rfl, _, rfl, _, rfl, _, rfl, n, bs, rfl, hn4, webs_len' evn hbs, _, rfl, ?_⟩
      refine ⟨fun k ρ => ansP m one other = ((((ordM n bs n).drop k).findSome? (fo one other n bs)).or (((lv n).drop (j + 1)).findSome? fun bs => fw one other (n, bs))).or (((List.range m).drop (i + 1)).findSome? (fn' one other)) ∧ ∃ c, ρ = [some (.im (encB one)), some (.im (encB other)), some (.im (dn m)), some (.im (dn n)), some (.im (encW bs)), c], ⟨hj, _, rfl⟩, ?_, ?_⟩
      · rintro k d ρ hd ⟨hk, c, rfl⟩
        obtain ⟨o, ho, rfl⟩ := map_at hd
        have hm := List.mem_of_getElem? ho
        rw [drop_some ho] at hk
        refine ⟨_, rfl, _, rfl, _, rfl, _, rfl, _, rfl, _, rfl, _, rfl, _, rfl, n, bs, one, o, rfl, cas_of evn hn4 hbs hm ok1 c1, ?_⟩
        refine ⟨_, rfl, _, rfl, _, rfl, _, rfl, _, rfl, _, rfl, _, rfl, _, rfl, n, bs, other, o, rfl, cas_of evn hn4 hbs hm ok2 c2, ?_⟩
        refine ⟨fit_encP (1, _), fit_encP (1, _), _, rfl, ?_⟩
        refine ite_b (ne_ch (chM n bs one o.length 1 o one) (chM n bs other o.length 1 o other)) (fun h => ?_) (fun h => ?_)
        · have e : fo one other n bs o = some (n, bs, o) := by unfold fo; rw [if_pos (show parted one other n bs o = true from h)]
          rw [e] at hk
          have e2 : ansP m one other = some (n, bs, o) := hk
          rw [e2] at q
          exact ⟨_, rfl, _, rfl, _, rfl, _, rfl, _, rfl, _, rfl, by show 3 ≤ 100000; decide, q⟩
        · have e : fo one other n bs o = none := by
            unfold fo
            rw [if_neg]
            intro z
            have z : (!Nat.beq (chM n bs one o.length 1 o one) (chM n bs other o.length 1 o other)) = true := z
            rw [h] at z
            cases z
          rw [e] at hk
          exact ⟨hk, _, rfl⟩
      · rintro ρ ⟨hk, c, rfl⟩
        rw [List.length_map, List.drop_length] at hk
        exact ⟨hk, _, _, rfl⟩
    · rintro ρ ⟨hj, b, c, rfl⟩
      rw [List.length_map, List.drop_length] at hj
      subst hn
      exact ⟨hj, _, _, _, rfl⟩
  · rintro ρ ⟨ha, a, b, c, rfl⟩
    have el : (((List.range (m + 1 - 1)).map fun k => D3.int ((1 + k : Nat)))).length = m := by rw [List.length_map, List.length_range]; omega
    rw [el] at ha
    have e3 : (List.range m).drop m = [] := List.drop_eq_nil_of_le (by rw [List.length_range]; omega)
    rw [e3] at ha
    have e2 : ansP m one other = none := ha
    rw [e2] at q
    exact q
end L3

set_option Elab.async false
set_option autoImplicit false
set_option linter.all false
set_option maxRecDepth 100000
/-! L3, part B4: what is drawn. -/
namespace L3
open PySem PySem.Spec L2

/-! ### _law_tape, _law_pick -/
def T_tape : List D3 → (R3 → Prop) → Prop := fun ds Q => ∃ ns : List Int, ds = [.lst (ns.map D3.int)] ∧ ∀ p t, 0 ≤ t.j → Q (.tp p t)
theorem r_tape {ds : List D3} {Q : R3 → Prop} (h : T_tape ds Q) : t__law_tape { nx := fun _ => Q (.im .non), rt := fun r _ => Q r } (start3 N__law_tape ds) := by
  obtain ⟨ns, rfl, q⟩ := h
  exact ⟨_, rfl, ns, rfl, fun p => q p _ (Int.le_refl 0)⟩
def T_pick : Tp → List D3 → (R3 → Tp → Prop) → Prop := fun t ds Q => ∃ m : Nat, ds = [dn m] ∧ 1 ≤ m ∧ m ≤ 1000 ∧ 0 ≤ t.j ∧ ∀ k t', k < m → 0 ≤ t'.j → Q (.im (dn k)) t'
theorem mod_dn (x : Int) {m : Nat} (hm : 1 ≤ m) : D3.int (x % (m : Int)) = dn ((x % (m : Int)).toNat) ∧ (x % (m : Int)).toNat < m := by
  have h1 := Int.emod_nonneg x (b := (m : Int)) (by omega)
  have h2 := Int.emod_lt_of_pos x (b := (m : Int)) (by omega)
  refine ⟨?_, by omega⟩
  unfold dn
  rw [Int.toNat_of_nonneg h1]
theorem div_ok {m : Nat} (h1 : 1 ≤ m) (h2 : m ≤ 1000) (x : Int) : CDivW x (m : Int) := by
  refine ⟨by omega, ?_⟩
  have e : ((m : Int)).natAbs = m := by omega
  rw [e]
  have : m.log2 ≤ m := Nat.log2_le_self m
  omega
theorem div_lit (x : Int) : CDivW x 1009 ∧ CDivW x 16 := by
  refine ⟨⟨by decide, ?_⟩, ⟨by decide, ?_⟩⟩
  · have : (1009 : Int).natAbs.log2 ≤ (1009 : Int).natAbs := Nat.log2_le_self _
    have e : (1009 : Int).natAbs = 1009 := rfl
    omega
  · have : (16 : Int).natAbs.log2 ≤ (16 : Int).natAbs := Nat.log2_le_self _
    have e : (16 : Int).natAbs = 16 := rfl
    omega
theorem mul_left_ok {x y : Int} (h1 : 0 ≤ x) (h2 : x < 2147483647) : CMul x y := by
  refine .inl ⟨?_, ?_⟩
  · have : (-(2 ^ 64) : Int) < 0 := by decide
    omega
  · have : (2147483647 : Int) < 2 ^ 64 := by decide
    omega
theorem mul_lit (x : Int) : CMul x 48271 ∧ CMul x 69621 := ⟨.inr ⟨by decide, by decide⟩, .inr ⟨by decide, by decide⟩⟩
theorem r_pick {p : Addr} {t : Tp} {ds : List D3} {Q : R3 → Tp → Prop} (h : T_pick t ds Q) : t__law_pick { nx := fun ρ => ∃ t', ρ[0]? = some (some (.tp p t')) ∧ Q (.im .non) t', rt := fun r ρ => ∃ t', ρ[0]? = some (some (.tp p t')) ∧ Q r t' } (startT N__law_pick p t ds) := by
  obtain ⟨m, rfl, h1, h2, hj, q⟩ := h
  have qm : ∀ (x : Int) (t' : Tp), 0 ≤ t'.j → Q (.im (.int (x % (m : Int)))) t' := fun x t' h => by
    obtain ⟨e, hk⟩ := mod_dn x h1
    rw [e]
    exact q _ _ hk h
  have hm0 : (0 : Int) < (m : Int) := by omega
  refine ⟨_, _, _, rfl, rfl, _, rfl, ?_⟩
  refine ite_b (c := decide ((1 : Int) < t.r)) rfl (fun _ => ?_) (fun _ => ?_)
  · refine ⟨_, _, _, rfl, rfl, _, rfl, hm0, ?_⟩
    refine ⟨_, _, _, rfl, rfl, _, rfl, div_ok h1 h2 _, _, _, _, _, rfl, rfl, rfl, ?_⟩
    exact ⟨_, rfl, _, rfl, qm _ _ hj⟩
  · refine ⟨_, _, _, rfl, rfl, _, _, _, _, rfl, rfl, rfl, ?_⟩
    -- the cell drawn
    have rest : ∀ (t2 : Tp) (cell : Int), 0 ≤ t2.j → seq3 (ifS3 (tst3 (op2 ge3 (v3 3) (op2 (int2 CPow fun i j => .int (i ^ j.toNat)) (c3 (.int 10)) (c3 (.int 18))))) (seq3 (tpPut 0 2 (op2 (int2 CDivW fun i j => .int (i / j)) (v3 3) (v3 1))) (ret3 (op2 (int2 (fun _ j => 0 < j) fun i j => .int (i % j)) (call1 int3 (v3 3)) (v3 1)))) next3) (seq3 (asg3 (op2 (int2 (fun _ j => 0 < j) fun i j => .int (i % j)) (call1 int3 (op2 add3 (op2 add3 (op2 (int2 CMul fun i j => .int (i * j)) (tpGet 0 3) (c3 (.int 48271))) (op2 (int2 (fun _ j => 0 < j) fun i j => .int (i % j)) (call1 int3 (v3 3)) (c3 (.int 2147483629)))) (op2 (int2 CMul fun i j => .int (i * j)) (tpGet 0 4) (c3 (.int 69621))))) (c3 (.int 2147483647))) 4) (seq3 (asg3 (op2 (int2 (fun _ j => 0 < j) fun i j => .int (i % j)) (call1 int3 (op2 (int2 CMul fun i j => .int (i * j)) (v3 4) (op2 add3 (op2 (int2 CDivW fun i j => .int (i / j)) (v3 4) (c3 (.int 1009))) (c3 (.int 40692))))) (c3 (.int 2147483399))) 4) (seq3 (tpPut 0 3 (v3 4)) (ret3 (op2 (int2 (fun _ j => 0 < j) fun i j => .int (i % j)) (call1 int3 (op2 (int2 CDivW fun i j => .int (i / j)) (v3 4) (c3 (.int 16)))) (v3 1)))))) { nx := fun ρ => ∃ t', ρ[0]? = some (some (.tp p t')) ∧ Q (.im .non) t', rt := fun r ρ => ∃ t', ρ[0]? = some (some (.tp p t')) ∧ Q r t' } [some (.tp p t2), some (.im (dn m)), none, some (.im (.int cell)), none] := fun t2 cell hj2 => by
      refine ⟨_, rfl, ⟨by decide, by decide, by decide⟩, _, rfl, ?_⟩
      refine ite_b rfl (fun _ => ?_) (fun _ => ?_)
      · refine ⟨_, rfl, _, rfl, div_ok h1 h2 _, _, _, _, _, rfl, rfl, rfl, ?_⟩
        exact ⟨_, rfl, _, rfl, hm0, _, rfl, qm _ _ hj2⟩
      · refine ⟨_, _, _, rfl, rfl, (mul_lit _).1, _, rfl, by show (0 : Int) < 2147483629; decide, _, _, _, rfl, rfl, (mul_lit _).2, by show (0 : Int) < 2147483647; decide, ?_⟩
        have b1 := Int.emod_nonneg (t2.s * 48271 + cell % 2147483629 + t2.c * 69621) (b := 2147483647) (by decide)
        have b2 := Int.emod_lt_of_pos (t2.s * 48271 + cell % 2147483629 + t2.c * 69621) (b := 2147483647) (by decide)
        refine ⟨_, rfl, _, rfl, (div_lit _).1, mul_left_ok b1 b2, by show (0 : Int) < 2147483399; decide, ?_⟩
        refine ⟨_, rfl, _, _, _, _, rfl, rfl, rfl, ?_⟩
        exact ⟨_, rfl, (div_lit _).2, _, rfl, hm0, _, rfl, qm _ _ hj2⟩
    refine ⟨_, _, _, rfl, rfl, _, _, _, rfl, rfl, _, rfl, ?_⟩
    refine ite_b (c := decide (t.j < ((t.ns.map D3.int).length : Nat))) rfl (fun h => ?_) (fun _ => ?_)
    · have h := of_decide_eq_true h
      rw [List.length_map] at h
      have hlt : t.j.toNat < t.ns.length := by omega
      have hat : atI (t.ns.map D3.int) t.j = some (.int (t.ns[t.j.toNat])) := by
        have e : ((t.j.toNat : Nat) : Int) = t.j := by omega
        have h2 : atI (t.ns.map D3.int) ((t.j.toNat : Nat) : Int) = some (.int (t.ns[t.j.toNat])) := by
          refine atI0 ?_
          rw [List.getElem?_map, List.getElem?_eq_getElem hlt]
          rfl
        rw [e] at h2
        exact h2
      refine ⟨_, _, _, rfl, rfl, _, _, _, rfl, rfl, _, hat, ?_⟩
      refine ⟨_, _, _, rfl, rfl, _, _, _, _, rfl, rfl, rfl, ?_⟩
      exact rest _ _ (by show 0 ≤ t.j + 1; omega)
    · exact rest _ _ hj
/-! ### _law_deeds -/
def unit : Nat → Nat
  | 0 => 1
  | k + 1 => 1 + 2 * (2 * unit k)
def T_deeds (k : Nat) : Tp → List D3 → (R3 → Tp → Prop) → Prop := fun t ds Q => ∃ deep most : Nat, ds = [dn deep, dn most] ∧ deep + k = 4 ∧ 1 ≤ most ∧ most ≤ 4 ∧ 0 ≤ t.j ∧ ∀ b t', okB k b → cntB b ≤ most * unit k → 0 ≤ t'.j → Q (.im (encB b)) t'
def TdP : Nat → Tp → List D3 → (R3 → Tp → Prop) → Prop
  | 0 => fun _ _ _ => False
  | k + 1 => T_deeds k
theorem unit_pos (k : Nat) : 1 ≤ unit k := by
  cases k with
  | zero => exact Nat.le_refl _
  | succ k => unfold unit; omega
theorem okD_front (k : Nat) : okD k .front := by cases k <;> (unfold okD; trivial)
theorem okD_back (k : Nat) : okD k .back := by cases k <;> (unfold okD; trivial)
theorem encD_front : encD .front = .tup [.str "front"] := by unfold encD; rfl
theorem encD_back : encD .back = .tup [.str "back"] := by unfold encD; rfl
theorem cntD_front : cntD .front = 1 := by unfold cntD; rfl
theorem cntD_back : cntD .back = 1 := by unfold cntD; rfl
theorem r_deeds {k : Nat} {p : Addr} {t : Tp} {ds : List D3} {Q : R3 → Tp → Prop} (h : T_deeds k t ds Q) : t__law_deeds T_pick (TdP k) { nx := fun ρ => ∃ t', ρ[0]? = some (some (.tp p t')) ∧ Q (.im .non) t', rt := fun r ρ => ∃ t', ρ[0]? = some (some (.tp p t')) ∧ Q r t' } (startT N__law_deeds p t ds) := by
  obtain ⟨deep, most, rfl, hk, m1, m4, hj, q⟩ := h
  refine ⟨by show 0 ≤ 100000; decide, ?_⟩
  refine ⟨⟨p, t, rfl⟩, _, rfl, _, rfl, p, t, rfl, most, rfl, m1, by omega, hj, fun d0 t0 hd0 hj0 => ?_⟩
  refine ⟨1 + d0, rfl, by omega, fun i ρ => ∃ t bs a b c d, 0 ≤ t.j ∧ bs.length = i ∧ (∀ e ∈ bs, okD k e) ∧ cntB bs ≤ i * unit k ∧ ρ = [some (.tp p t), some (.im (dn deep)), some (.im (dn most)), some (.ls (bs.map encD)), a, b, c, d], ⟨t0, [], _, _, _, _, hj0, rfl, fun _ h => (by cases h), by rw [cntB_nil]; exact Nat.zero_le _, rfl⟩, ?_, ?_⟩
  · rintro i d ρ hd ⟨t1, bs, a, b, c, dd, hj1, hlen, hok, hcnt, rfl⟩
    obtain ⟨hi, rfl⟩ := rg_at hd
    have up := unit_pos k
    refine ⟨⟨p, t1, rfl⟩, _, rfl, p, t1, rfl, 4, rfl, by decide, by decide, hj1, fun kd t2 hkd hj2 => ?_⟩
    -- a deed put behind
    have put : ∀ (e : Deed) (t' : Tp) (x y z w : Option R3), okD k e → cntD e ≤ unit k → 0 ≤ t'.j → ∃ t bs' a b c d, 0 ≤ t.j ∧ bs'.length = i + 1 ∧ (∀ e ∈ bs', okD k e) ∧ cntB bs' ≤ (i + 1) * unit k ∧ [some (.tp p t'), some (.im (dn deep)), some (.im (dn most)), some (.ls (bs.map encD ++ [encD e])), x, y, z, w] = [some (.tp p t), some (.im (dn deep)), some (.im (dn most)), some (.ls (bs'.map encD)), a, b, c, d] := fun e t' x y z w oke hce hj' => by
      refine ⟨t', bs ++ [e], x, y, z, w, hj', by rw [List.length_append, hlen]; rfl, fun e' he' => ?_, ?_, by rw [List.map_append]; rfl⟩
      · rcases List.mem_append.mp he' with he' | he'
        · exact hok e' he'
        · rw [List.mem_singleton] at he'
          subst he'
          exact oke
      · rw [cntB_app, cntB_cons, cntB_nil, Nat.succ_mul]
        omega
    have simple : ∀ D : Ends3, (∀ ρ, (∃ t bs' a b c d, 0 ≤ t.j ∧ bs'.length = i + 1 ∧ (∀ e ∈ bs', okD k e) ∧ cntB bs' ≤ (i + 1) * unit k ∧ ρ = [some (.tp p t), some (.im (dn deep)), some (.im (dn most)), some (.ls (bs'.map encD)), a, b, c, d]) → D.nx ρ) → app3 3 (op2 ix3 (lst3 (cons3 (tup3 (cons3 (c3 (.str "front")) nil3)) (cons3 (tup3 (cons3 (c3 (.str "back")) nil3)) (cons3 (tup3 (cons3 (c3 (.str "front")) nil3)) (cons3 (tup3 (cons3 (c3 (.str "back")) nil3)) nil3))))) (v3 5)) D
        [some (.tp p t2), some (.im (dn deep)), some (.im (dn most)), some (.ls (bs.map encD)), some (.im (dn i)), some (.im (dn kd)), c, dd] := fun D hD => by
      refine ⟨⟨_, rfl⟩, _, rfl, by show 1 ≤ 100000; decide, _, rfl, _, rfl, by show 1 ≤ 100000; decide, _, rfl, _, rfl, by show 1 ≤ 100000; decide, _, rfl, _, rfl, by show 1 ≤ 100000; decide, _, rfl, by show 4 ≤ 100000; decide, _, rfl, ?_⟩
      match kd, hkd with
      | 0, _ =>
        refine ⟨_, rfl, _, _, rfl, rfl, by rw [List.length_map]; omega, ?_⟩
        rw [← encD_front]
        exact hD _ <| put .front t2 _ _ _ _ (okD_front k) (by rw [cntD_front]; exact up) hj2
      | 1, _ =>
        refine ⟨_, rfl, _, _, rfl, rfl, by rw [List.length_map]; omega, ?_⟩
        rw [← encD_back]
        exact hD _ <| put .back t2 _ _ _ _ (okD_back k) (by rw [cntD_back]; exact up) hj2
      | 2, _ =>
        refine ⟨_, rfl, _, _, rfl, rfl, by rw [List.length_map]; omega, ?_⟩
        rw [← encD_front]
        exact hD _ <| put .front t2 _ _ _ _ (okD_front k) (by rw [cntD_front]; exact up) hj2
      | 3, _ =>
        refine ⟨_, rfl, _, _, rfl, rfl, by rw [List.length_map]; omega, ?_⟩
        rw [← encD_back]
        exact hD _ <| put .back t2 _ _ _ _ (okD_back k) (by rw [cntD_back]; exact up) hj2
      | n + 4, h => omega
    refine ⟨_, rfl, fit_dn kd, fit_dn 3, _, rfl, ?_⟩
    refine ite_b (eq_dn kd 3) (fun h3 => ?_) (fun h3 => ?_)
    · refine ⟨_, rfl, _, rfl, ?_⟩
      refine ite_b (c := decide ((deep : Int) < 4)) rfl (fun h4 => ?_) (fun h4 => ?_)
      · have h4 := of_decide_eq_true h4
        cases k with
        | zero => omega
        | succ k =>
          refine ⟨⟨p, t2, rfl⟩, _, rfl, _, rfl, _, rfl, p, t2, rfl, deep + 1, 2, rfl, by omega, by decide, by decide, hj2, fun b1 t3 ob1 cb1 hj3 => ?_⟩
          refine ⟨_, rfl, ⟨p, t3, rfl⟩, _, rfl, _, rfl, _, rfl, p, t3, rfl, deep + 1, 2, rfl, by omega, by decide, by decide, hj3, fun b2 t4 ob2 cb2 hj4 => ?_⟩
          refine ⟨_, rfl, _, _, rfl, ?_⟩
          refine ⟨⟨_, rfl⟩, _, rfl, ⟨p, t4, rfl⟩, _, rfl, _, rfl, by show 2 ≤ 100000; decide, ⟨p, t4, rfl⟩, _, rfl, p, t4, rfl, 2, rfl, by decide, by decide, hj4, fun k2 t5 hk2 hj5 => ?_⟩
          have fin : ∀ (x : Nat) (t6 : Tp), x < 8 → 0 ≤ t6.j → ∃ (t : Tp) (bs' : List Deed) (a b c d : Option R3), 0 ≤ t.j ∧ bs'.length = i + 1 ∧ (∀ e ∈ bs', okD (k + 1) e) ∧ cntB bs' ≤ (i + 1) * unit (k + 1) ∧ ([some (.tp p t6), some (.im (dn deep)), some (.im (dn most)), some (.ls (bs.map encD ++ [.tup [.str "if", dn x, encB b1, encB b2]])), some (.im (dn i)), some (.im (dn kd)), some (.im (encB b1)), some (.im (encB b2))] : Rho) = [some (.tp p t), some (.im (dn deep)), some (.im (dn most)), some (.ls (bs'.map encD)), a, b, c, d] := fun x t6 hx hj6 => by
            rw [← encD_cond]
            refine put (.cond x b1 b2) t6 _ _ _ _ ?_ ?_ hj6
            · unfold okD
              exact ⟨hx, ob1, ob2⟩
            · have : cntD (.cond x b1 b2) = cntB b1 + cntB b2 + 1 := by rw [cntD]
              rw [this]
              unfold unit
              omega
          match k2, hk2 with
          | 0, _ =>
            refine ⟨_, rfl, _, rfl, p, t5, rfl, 4, rfl, by decide, by decide, hj5, fun x t6 hx hj6 => ?_⟩
            exact ⟨_, rfl, _, rfl, _, rfl, _, rfl, _, rfl, by show 4 ≤ 100000; decide, _, _, rfl, rfl, by rw [List.length_map]; omega, fin x t6 (by omega) hj6⟩
          | 1, _ =>
            refine ⟨_, rfl, _, rfl, p, t5, rfl, 8, rfl, by decide, by decide, hj5, fun x t6 hx hj6 => ?_⟩
            exact ⟨_, rfl, _, rfl, _, rfl, _, rfl, _, rfl, by show 4 ≤ 100000; decide, _, _, rfl, rfl, by rw [List.length_map]; omega, fin x t6 (by omega) hj6⟩
          | n + 2, h => omega
      · exact simple _ fun _ h => h
    · refine iteF ?_
      exact simple _ fun _ h => h
  · rintro ρ ⟨t1, bs, a, b, c, dd, hj1, hlen, hok, hcnt, rfl⟩
    rw [List.length_map, List.length_range] at hlen hcnt
    refine ⟨_, rfl, rfl, _, rfl, q bs t1 ⟨fun e => ?_, hok⟩ (Nat.le_trans hcnt (Nat.mul_le_mul_right _ (by omega))) hj1⟩
    rw [e] at hlen
    simp at hlen
    omega
end L3

set_option Elab.async false
set_option autoImplicit false
set_option linter.all false
set_option maxRecDepth 100000
/-! L3, part B5: the law. -/
namespace L3
open PySem PySem.Spec L2

theorem str_inj {x y : Str} (h : (D3.tup [.str x] : D3) = .tup [.str y]) : x = y := by
  injection h with h
  injection h with h _
  injection h
theorem fb_ne : ¬ (("front" : Str) = "back") := by decide +kernel
theorem encD_inj_m : ∀ (m : Nat) (d e : Deed), cntD d ≤ m → encD d = encD e → d = e
  | 0, d, e, h, _ => by
    have := cntD_pos d
    omega
  | m + 1, d, e, h, he => by
    have lists : ∀ (a b : List Deed), cntB a ≤ m → a.map encD = b.map encD → a = b := by
      intro a
      induction a with
      | nil =>
        intro b _ hb
        cases b with
        | nil => rfl
        | cons _ _ => cases hb
      | cons x a ih =>
        intro b hm hb
        cases b with
        | nil => cases hb
        | cons y b =>
          rw [cntB_cons] at hm
          rw [List.map_cons, List.map_cons] at hb
          injection hb with h1 h2
          rw [encD_inj_m m x y (by omega) h1, ih b (by omega) h2]
    cases d with
    | front => cases e with
      | front => rfl
      | back => rw [encD_front, encD_back] at he; exact absurd (str_inj he) fb_ne
      | cond n a b => rw [encD_front, encD_cond] at he; injection he with he; injection he with _ he; cases he
    | back => cases e with
      | back => rfl
      | front => rw [encD_front, encD_back] at he; exact absurd (str_inj he).symm fb_ne
      | cond n a b => rw [encD_back, encD_cond] at he; injection he with he; injection he with _ he; cases he
    | cond n a b => cases e with
      | front => rw [encD_front, encD_cond] at he; injection he with he; injection he with _ he; cases he
      | back => rw [encD_back, encD_cond] at he; injection he with he; injection he with _ he; cases he
      | cond n2 a2 b2 =>
        have hc : cntD (.cond n a b) = cntB a + cntB b + 1 := by rw [cntD]
        rw [encD_cond, encD_cond] at he
        injection he with he
        injection he with _ he
        injection he with h1 he
        injection he with h2 he
        injection he with h3 _
        unfold encB at h2 h3
        injection h2 with h2
        injection h3 with h3
        rw [dn_inj _ _ h1, lists a a2 (by omega) h2, lists b b2 (by omega) h3]
theorem encD_inj : ∀ a b : Deed, encD a = encD b → a = b := fun a b h => encD_inj_m _ a b (Nat.le_refl _) h
theorem encB_inj : ∀ a b : List Deed, encB a = encB b → a = b := fun a b h => by
  unfold encB at h
  injection h with h
  induction a generalizing b with
  | nil => cases b with
    | nil => rfl
    | cons _ _ => cases h
  | cons x a ih => cases b with
    | nil => cases h
    | cons y b =>
      rw [List.map_cons] at h; rw [List.map_cons] at h
      injection h with h1 h2
      rw [encD_inj _ _ h1, ih b h2]
/-! ### _law_many_deeds -/
def T_many (k : Nat) : List D3 → (R3 → Prop) → Prop := fun ds Q => ∃ b, ds = [encB b] ∧ okB k b ∧ cntB b ≤ 1000 ∧ Q (.im (dn (cntB b)))
def TmP : Nat → List D3 → (R3 → Prop) → Prop
  | 0 => fun _ _ => False
  | k + 1 => T_many k
theorem sum_cnt : ∀ b : List Deed, (b.map fun d => ((cntD d : Nat) : Int)).sum = ((cntB b : Nat) : Int)
  | [] => by rw [cntB_nil]; rfl
  | d :: b => by
    rw [List.map_cons, List.sum_cons, sum_cnt b, cntB_cons, Int.natCast_add]
theorem r_many {k : Nat} {ds : List D3} {Q : R3 → Prop} (h : T_many k ds Q) : t__law_many_deeds (TmP k) { nx := fun _ => Q (.im .non), rt := fun r _ => Q r } (start3 N__law_many_deeds ds) := by
  obtain ⟨b, rfl, ok, hc, q⟩ := h
  have hl := len_cnt b
  refine ⟨_, rfl, b.map encD, rfl, comp_enc (l := b) encD_inj (fun _ => true) (fun d => dn (cntD d)) rfl (by omega) (fun d hd => ?_) ?_⟩
  · have okd := ok.2 d hd
    have hcd := cnt_mem hd
    have simple : ∀ x : Str, encD d = .tup [.str x] → cntD d = 1 → compTurn (gn3 1) yes3 (op2 add3 (c3 (.int 1)) (call1 (intL List.sum) (lcT3 (sl3 (some 2) none (v3 1)) (gn3 2) yes3 (callF (TmP k) (cons3 (v3 2) nil3)) [2]))) [1] (start3 N__law_many_deeds [encB b]) (invF encD (ifF (fun _ => true) fun d => dn (cntD d))) (encD d) := fun x he hcc => by
      have hi : invF encD (ifF (fun _ => true) fun d => dn (cntD d)) (encD d) = some (.int 1) := inv_yes encD_inj rfl (by rw [hcc]; rfl)
      rw [he] at hi ⊢
      exact ⟨rfl, rfl, _, rfl, _, rfl, [], rfl, by show 0 ≤ 100000; decide, fun _ => none, fun d h => (by cases h), [], rfl, rfl, _, rfl, hi⟩
    cases d with
    | front => exact simple "front" encD_front cntD_front
    | back => exact simple "back" encD_back cntD_back
    | cond n a a2 =>
      obtain ⟨j, rfl, hn, oa, ob⟩ := okD_cond okd
      have ec : cntD (.cond n a a2) = cntB a + cntB a2 + 1 := by rw [cntD]
      have hi : invF encD (ifF (fun _ => true) fun d => dn (cntD d)) (encD (.cond n a a2)) = some (.int (1 + (((cntB a : Nat) : Int) + (((cntB a2 : Nat) : Int) + 0)))) := inv_yes encD_inj rfl (by
        rw [ec]
        unfold dn
        congr 1
        omega)
      rw [encD_cond] at hi ⊢
      refine ⟨rfl, rfl, _, rfl, _, rfl, [encB a, encB a2], rfl, comp_enc (l := [a, a2]) encB_inj (fun _ => true) (fun x => dn (cntB x)) rfl (by show 2 ≤ 100000; decide) (fun x hx => ?_) ⟨[((cntB a : Nat) : Int), ((cntB a2 : Nat) : Int)], rfl, rfl, _, rfl, hi⟩⟩
      obtain rfl | hx := List.mem_cons.mp hx
      · exact ⟨rfl, rfl, _, rfl, _, rfl, x, rfl, oa, by omega, rfl, _, rfl, inv_yes encB_inj rfl rfl⟩
      · rw [List.mem_singleton] at hx
        subst hx
        exact ⟨rfl, rfl, _, rfl, _, rfl, x, rfl, ob, by omega, rfl, _, rfl, inv_yes encB_inj rfl rfl⟩
  · rw [filter_true]
    refine ⟨b.map fun d => ((cntD d : Nat) : Int), by rw [List.map_map]; rfl, ?_⟩
    rw [sum_cnt]
    exact q
/-! ### _law_book -/
def T_book : Tp → List D3 → (R3 → Tp → Prop) → Prop := fun t ds Q => ds = [] ∧ 0 ≤ t.j ∧ ∀ b t', okB 3 b → cntB b ≤ 40 → 0 ≤ t'.j → Q (.im (encB b)) t'
theorem encB_f : encB [.front] = .tup [.tup [.str "front"]] := by
  unfold encB
  rw [List.map_cons, encD_front]
  rfl
theorem encB_b : encB [.back] = .tup [.tup [.str "back"]] := by
  unfold encB
  rw [List.map_cons, encD_back]
  rfl
theorem encB_fb : encB [.front, .back] = .tup [.tup [.str "front"], .tup [.str "back"]] := by
  unfold encB
  rw [List.map_cons, List.map_cons, encD_front, encD_back]
  rfl
theorem okB_f (k : Nat) : okB k [.front] := ⟨by simp, fun d hd => by rw [List.mem_singleton] at hd; subst hd; exact okD_front k⟩
theorem okB_b (k : Nat) : okB k [.back] := ⟨by simp, fun d hd => by rw [List.mem_singleton] at hd; subst hd; exact okD_back k⟩
theorem okB_app {k : Nat} {a b : List Deed} (ha : okB k a) (hb : okB k b) : okB k (a ++ b) := ⟨by simp [ha.1], fun d hd => (List.mem_append.mp hd).elim (ha.2 d) (hb.2 d)⟩
theorem cnt_f : cntB [.front] = 1 := by rw [cntB_cons, cntB_nil, cntD_front]
theorem cnt_b : cntB [.back] = 1 := by rw [cntB_cons, cntB_nil, cntD_back]
theorem r_book {p : Addr} {t : Tp} {ds : List D3} {Q : R3 → Tp → Prop} (h : T_book t ds Q) : t__law_book T_pick (T_deeds 3) (T_many 3) { nx := fun ρ => ∃ t', ρ[0]? = some (some (.tp p t')) ∧ Q (.im .non) t', rt := fun r ρ => ∃ t', ρ[0]? = some (some (.tp p t')) ∧ Q r t' } (startT N__law_book p t ds) := by
  obtain ⟨rfl, hj, q⟩ := h
  refine ⟨⟨p, t, rfl⟩, _, rfl, p, t, rfl, 8, rfl, by decide, by decide, hj, fun kd t1 hkd hj1 => ?_⟩
  refine ⟨_, rfl, fit_dn kd, fit_dn 0, _, rfl, ?_⟩
  refine ite_b (eq_dn kd 0) (fun _ => ?_) (fun _ => ?_)
  · refine ⟨_, rfl, by show 1 ≤ 100000; decide, _, rfl, by show 1 ≤ 100000; decide, _, rfl, ?_⟩
    rw [← encB_f]
    exact q _ _ (okB_f 3) (by rw [cnt_f]; decide) hj1
  refine ⟨_, rfl, fit_dn kd, fit_dn 1, _, rfl, ?_⟩
  refine ite_b (eq_dn kd 1) (fun _ => ?_) (fun _ => ?_)
  · refine ⟨_, rfl, by show 1 ≤ 100000; decide, _, rfl, by show 1 ≤ 100000; decide, _, rfl, ?_⟩
    rw [← encB_b]
    exact q _ _ (okB_b 3) (by rw [cnt_b]; decide) hj1
  refine ⟨⟨p, t1, rfl⟩, _, rfl, _, rfl, p, t1, rfl, 1, 4, rfl, by decide, by decide, by decide, hj1, fun b t2 okb hcb hj2 => ?_⟩
  have hu : 4 * unit 3 ≤ 1000 := by decide
  refine ⟨_, rfl, _, rfl, b, rfl, okb, by omega, _, rfl, ?_⟩
  refine ite_b (c := decide (((cntB b : Nat) : Int) ≤ 40)) rfl (fun h => ?_) (fun _ => ?_)
  · have h := of_decide_eq_true h
    exact ⟨_, rfl, _, rfl, q b t2 okb (by omega) hj2⟩
  · refine ⟨_, rfl, by show 1 ≤ 100000; decide, _, rfl, _, rfl, by show 1 ≤ 100000; decide, _, rfl, by show 2 ≤ 100000; decide, _, rfl, ?_⟩
    rw [← encB_fb]
    exact q _ _ (okB_app (okB_f 3) (okB_b 3)) (by show cntB ([.front] ++ [.back]) ≤ 40; rw [cntB_app, cnt_f, cnt_b]; decide) hj2
/-! ### law -/
theorem eqb_bl (a b : Bool) : (D3.bl a).eqb (.bl b) = (a == b) := by
  unfold D3.eqb
  rw [pd, pd, PyData.eqv]
theorem fit_bl (a : Bool) : (D3.bl a).fit = true := by
  simp [D3.fit, D3.ok, pd, SeqAt.shaped, PyData.canLay0, PyData.depth]
theorem eqv_self_N : ∀ l : List Nat, PyData.eqvAll (pds (l.map dn)) (pds (l.map dn)) = true
  | [] => by simp [pds, PyData.eqvAll]
  | n :: l => by
    have h := eqb_dn n n
    unfold D3.eqb at h
    rw [List.map_cons, pds, PyData.eqvAll, h, eqv_self_N l]
    simp
theorem fit_due (n : Nat) (bs : List Pr) (o : List Nat) : (D3.tup [dn n, encW bs, encN o]).fit = true := by
  have := dep_encP bs
  have h2 := dep_dn o
  simp [D3.fit, D3.ok, D3.oks, pd, pds, SeqAt.shaped, PyData.canLay0, PyData.canLayAll0, PyData.depth, PyData.depthAll, dn, encW, encN, oks_encP, lay_encP, oks_dn, lay_dn]
  omega
theorem eqb_due (n : Nat) (bs : List Pr) (o : List Nat) : (D3.tup [dn n, encW bs, encN o]).eqb (.tup [dn n, encW bs, encN o]) = true := by
  have h1 := eqb_dn n n
  have h2 := eqb_encW bs bs
  have h3 := eqv_self_N o
  unfold D3.eqb at h1 h2 ⊢
  have h4 : PyData.eqv (pd (encN o)) (pd (encN o)) = true := by
    unfold encN
    rw [pd, PyData.eqv, h3]
  rw [pd, PyData.eqv, pds, pds, pds, pds, PyData.eqvAll, PyData.eqvAll, PyData.eqvAll, PyData.eqvAll, h1, h2, h4, (eqW_iff bs bs).mpr rfl]
  simp
def T_law : List D3 → (R3 → Prop) → Prop := fun ds Q => ∃ ns : List Int, ds = [.lst (ns.map D3.int)] ∧ (∀ n, 1 ≤ n → n ≤ 4 → EvOk n) ∧ Q (.im (.bl true))
set_option maxHeartbeats 500000 in
theorem law_step {ns : List Int} {p : Addr} {one : List Deed} {kd : Nat} {t : Tp} {other : List Deed} {m : Nat} (E : Ends3) (x y : List Deed) (c : Option R3) (txy : Two m x y) (hxy : ansP m x y = ansP m one other) (hD : ∀ a b c, E.nx [some (.im (.lst (ns.map D3.int))), some (.tp p t), some (.im (encB one)), some (.im (encB other)), some (.im (dn kd)), some (.im (dn m)), some (.im (dueD (ansP m one other))), a, b, c]) : ((seq3 (asg3 (callF T_books_part (cons3 (v3 7) (cons3 (v3 8) (cons3 (v3 5) nil3)))) 9)  (seq3 (ifS3 (tst3 (op2 (eq3 true) (op2 (isN3 false) (v3 9) (c3 .non)) (op2 (isN3 false) (v3 6) (c3 .non)))) (ret3 (c3 (.bl false))) next3)  (ifS3 (tst3 (op2 (isN3 true) (v3 9) (c3 .non))) (seq3 (ifS3 (or3 (not3 (tst3 (isiT .tup (v3 9)))) (or3 (tst3 (op2 (eq3 true) (call1 len3 (v3 9)) (c3 (.int 2)))) (not3 (tst3 (isiT .web (op2 ix3 (v3 9) (c3 (.int 0)))))))) (ret3 (c3 (.bl false))) next3)  (ifS3 (tst3 (op2 (eq3 true) (tup3 (cons3 (fld3 (fun n _ _ _ => .int n) (op2 ix3 (v3 9) (c3 (.int 0)))) (cons3 (fld3 (fun _ b _ _ => b) (op2 ix3 (v3 9) (c3 (.int 0)))) (cons3 (op2 ix3 (v3 9) (c3 (.int 1))) nil3)))) (v3 6))) (ret3 (c3 (.bl false))) next3)) next3)))) E [some (.im (.lst (ns.map D3.int))), some (.tp p t), some (.im (encB one)), some (.im (encB other)), some (.im (dn kd)), some (.im (dn m)), some (.im (dueD (ansP m one other))), some (.im (encB x)), some (.im (encB y)), c] := by
  refine ⟨_, rfl, _, rfl, _, rfl, _, rfl, _, rfl, _, rfl, m, x, y, rfl, txy, ?_⟩
  rw [hxy]
  cases hA : ansP m one other with
  | none =>
    rw [hA] at hD
    refine ⟨_, rfl, _, rfl, fit_bl true, fit_bl true, _, rfl, ?_⟩
    refine ite_b (c := false) (by rw [eqb_bl]; rfl) (fun h => by cases h) (fun _ => ?_)
    refine ⟨_, rfl, _, rfl, ?_⟩
    refine iteF ?_
    exact hD _ _ _
  | some z =>
    obtain ⟨n, bs, o⟩ := z
    rw [hA] at hD
    refine ⟨_, rfl, _, rfl, fit_bl false, fit_bl false, _, rfl, ?_⟩
    refine ite_b (c := false) (by rw [eqb_bl]; rfl) (fun h => by cases h) (fun _ => ?_)
    refine ⟨_, rfl, _, rfl, ?_⟩
    refine iteT ?_
    refine ⟨_, rfl, _, rfl, ?_⟩
    refine iteF ?_
    refine ⟨_, rfl, fit_dn 2, fit_dn 2, _, rfl, ?_⟩
    refine ite_b (ne_dn 2 2) (fun h => by cases h) (fun _ => ?_)
    refine ⟨_, rfl, _, rfl, _, rfl, ?_⟩
    refine iteF ?_
    refine ⟨_, rfl, _, rfl, _, rfl, _, rfl, _, rfl, _, rfl, _, rfl, _, rfl, _, rfl, by show 3 ≤ 100000; decide, _, rfl, fit_due n bs o, fit_due n bs o, _, rfl, ?_⟩
    refine ite_b (c := false) (by rw [show (D3.tup [D3.int (n : Nat), encW bs, encN o]).eqb (dueD (some (n, bs, o))) = true from eqb_due n bs o]; rfl) (fun h => by cases h) (fun _ => ?_)
    exact hD _ _ _
set_option maxHeartbeats 500000 in
theorem law9 {ns : List Int} {p : Addr} {one : List Deed} {kd : Nat} {D : Ends3} (hD : ∀ ρ, D.rt (.im (.bl true)) ρ) (ok15 : okB 5 one) (c1 : cntB one ≤ 40) (ev : ∀ n, 1 ≤ n → n ≤ 4 → EvOk n) (t : Tp) (other : List Deed) (m : Nat) (oko : okB 5 other) (co : cntB other ≤ 40) (m1 : 1 ≤ m) (m4 : m ≤ 4) : (seq3 (asg3 (callF T_first_parted (cons3 (v3 2) (cons3 (v3 3) (cons3 (v3 5) nil3)))) 6)  (seq3 (forL3 (lst3 (cons3 (tup3 (cons3 (v3 2) (cons3 (v3 3) nil3))) (cons3 (tup3 (cons3 (v3 3) (cons3 (v3 2) nil3))) nil3))) (gp3 7 8) (seq3 (asg3 (callF T_books_part (cons3 (v3 7) (cons3 (v3 8) (cons3 (v3 5) nil3)))) 9)  (seq3 (ifS3 (tst3 (op2 (eq3 true) (op2 (isN3 false) (v3 9) (c3 .non)) (op2 (isN3 false) (v3 6) (c3 .non)))) (ret3 (c3 (.bl false))) next3)  (ifS3 (tst3 (op2 (isN3 true) (v3 9) (c3 .non))) (seq3 (ifS3 (or3 (not3 (tst3 (isiT .tup (v3 9)))) (or3 (tst3 (op2 (eq3 true) (call1 len3 (v3 9)) (c3 (.int 2)))) (not3 (tst3 (isiT .web (op2 ix3 (v3 9) (c3 (.int 0)))))))) (ret3 (c3 (.bl false))) next3)  (ifS3 (tst3 (op2 (eq3 true) (tup3 (cons3 (fld3 (fun n _ _ _ => .int n) (op2 ix3 (v3 9) (c3 (.int 0)))) (cons3 (fld3 (fun _ b _ _ => b) (op2 ix3 (v3 9) (c3 (.int 0)))) (cons3 (op2 ix3 (v3 9) (c3 (.int 1))) nil3)))) (v3 6))) (ret3 (c3 (.bl false))) next3)) next3))))  (ret3 (c3 (.bl true))))) D [some (.im (.lst (ns.map D3.int))), some (.tp p t), some (.im (encB one)), some (.im (encB other)), some (.im (dn kd)), some (.im (dn m)), none, none, none, none] := by
  have two : Two m one other := ⟨m1, m4, fun n h1 h2 => ev n h1 (Nat.le_trans h2 m4), ok15, c1, oko, co⟩
  have two' : Two m other one := ⟨m1, m4, fun n h1 h2 => ev n h1 (Nat.le_trans h2 m4), oko, co, ok15, c1⟩
  refine ⟨_, rfl, _, rfl, _, rfl, _, rfl, _, rfl, _, rfl, m, one, other, rfl, two, ?_⟩
  refine ⟨_, rfl, _, rfl, _, rfl, _, rfl, by show 2 ≤ 100000; decide, _, rfl, _, rfl, _, rfl, _, rfl, _, rfl, by show 2 ≤ 100000; decide, _, rfl, by show 2 ≤ 100000; decide, _, rfl, ?_⟩
  refine ⟨fun i ρ => ∃ a b c, ρ = [some (.im (.lst (ns.map D3.int))), some (.tp p t), some (.im (encB one)), some (.im (encB other)), some (.im (dn kd)), some (.im (dn m)), some (.im (dueD (ansP m one other))), a, b, c], ⟨_, _, _, rfl⟩, ?_, ?_⟩
  · rintro i d ρ hd ⟨a, b, c, rfl⟩
    match i, hd with
    | 0, hd =>
      cases hd
      exact ⟨_, _, rfl, law_step _ one other c two rfl fun a b c => ⟨a, b, c, rfl⟩⟩
    | 1, hd =>
      cases hd
      exact ⟨_, _, rfl, law_step _ other one c two' (ans_comm m other one) fun a b c => ⟨a, b, c, rfl⟩⟩
    | n + 2, hd => cases hd
  · rintro ρ ⟨a, b, c, rfl⟩
    exact hD _
set_option maxHeartbeats 500000 in
theorem law7 {ns : List Int} {p : Addr} {one : List Deed} {kd : Nat} {D : Ends3} (stage9 : ∀ (t : Tp) (other : List Deed) (m : Nat), okB 5 other → cntB other ≤ 40 → 1 ≤ m → m ≤ 4 → (seq3 (asg3 (callF T_first_parted (cons3 (v3 2) (cons3 (v3 3) (cons3 (v3 5) nil3)))) 6)  (seq3 (forL3 (lst3 (cons3 (tup3 (cons3 (v3 2) (cons3 (v3 3) nil3))) (cons3 (tup3 (cons3 (v3 3) (cons3 (v3 2) nil3))) nil3))) (gp3 7 8) (seq3 (asg3 (callF T_books_part (cons3 (v3 7) (cons3 (v3 8) (cons3 (v3 5) nil3)))) 9)  (seq3 (ifS3 (tst3 (op2 (eq3 true) (op2 (isN3 false) (v3 9) (c3 .non)) (op2 (isN3 false) (v3 6) (c3 .non)))) (ret3 (c3 (.bl false))) next3)  (ifS3 (tst3 (op2 (isN3 true) (v3 9) (c3 .non))) (seq3 (ifS3 (or3 (not3 (tst3 (isiT .tup (v3 9)))) (or3 (tst3 (op2 (eq3 true) (call1 len3 (v3 9)) (c3 (.int 2)))) (not3 (tst3 (isiT .web (op2 ix3 (v3 9) (c3 (.int 0)))))))) (ret3 (c3 (.bl false))) next3)  (ifS3 (tst3 (op2 (eq3 true) (tup3 (cons3 (fld3 (fun n _ _ _ => .int n) (op2 ix3 (v3 9) (c3 (.int 0)))) (cons3 (fld3 (fun _ b _ _ => b) (op2 ix3 (v3 9) (c3 (.int 0)))) (cons3 (op2 ix3 (v3 9) (c3 (.int 1))) nil3)))) (v3 6))) (ret3 (c3 (.bl false))) next3)) next3))))  (ret3 (c3 (.bl true))))) D [some (.im (.lst (ns.map D3.int))), some (.tp p t), some (.im (encB one)), some (.im (encB other)), some (.im (dn kd)), some (.im (dn m)), none, none, none, none]) (t : Tp) (other : List Deed) (hj : 0 ≤ t.j) (oko : okB 5 other) (co : cntB other ≤ 40) : (seq3 (asg3 (op2 add3 (c3 (.int 1)) (callT 1 T_pick (cons3 (c3 (.int 3)) nil3))) 5)  (seq3 (ifS3 (tst3 (op2 (eq3 false) (callT 1 T_pick (cons3 (c3 (.int 12)) nil3)) (c3 (.int 0)))) (asg3 (c3 (.int 4)) 5) next3)  (seq3 (asg3 (callF T_first_parted (cons3 (v3 2) (cons3 (v3 3) (cons3 (v3 5) nil3)))) 6)  (seq3 (forL3 (lst3 (cons3 (tup3 (cons3 (v3 2) (cons3 (v3 3) nil3))) (cons3 (tup3 (cons3 (v3 3) (cons3 (v3 2) nil3))) nil3))) (gp3 7 8) (seq3 (asg3 (callF T_books_part (cons3 (v3 7) (cons3 (v3 8) (cons3 (v3 5) nil3)))) 9)  (seq3 (ifS3 (tst3 (op2 (eq3 true) (op2 (isN3 false) (v3 9) (c3 .non)) (op2 (isN3 false) (v3 6) (c3 .non)))) (ret3 (c3 (.bl false))) next3)  (ifS3 (tst3 (op2 (isN3 true) (v3 9) (c3 .non))) (seq3 (ifS3 (or3 (not3 (tst3 (isiT .tup (v3 9)))) (or3 (tst3 (op2 (eq3 true) (call1 len3 (v3 9)) (c3 (.int 2)))) (not3 (tst3 (isiT .web (op2 ix3 (v3 9) (c3 (.int 0)))))))) (ret3 (c3 (.bl false))) next3)  (ifS3 (tst3 (op2 (eq3 true) (tup3 (cons3 (fld3 (fun n _ _ _ => .int n) (op2 ix3 (v3 9) (c3 (.int 0)))) (cons3 (fld3 (fun _ b _ _ => b) (op2 ix3 (v3 9) (c3 (.int 0)))) (cons3 (op2 ix3 (v3 9) (c3 (.int 1))) nil3)))) (v3 6))) (ret3 (c3 (.bl false))) next3)) next3))))  (ret3 (c3 (.bl true))))))) D [some (.im (.lst (ns.map D3.int))), some (.tp p t), some (.im (encB one)), some (.im (encB other)), some (.im (dn kd)), none, none, none, none, none] := by
  refine ⟨⟨p, t, rfl⟩, _, rfl, p, t, rfl, 3, rfl, by decide, by decide, hj, fun k t' hk hj' => ?_⟩
  refine ⟨⟨p, t', rfl⟩, _, rfl, p, t', rfl, 12, rfl, by decide, by decide, hj', fun k2 t'' hk2 hj'' => ?_⟩
  refine ⟨fit_dn k2, fit_dn 0, _, rfl, ?_⟩
  refine ite_b (eq_dn k2 0) (fun _ => ?_) (fun _ => ?_)
  · exact stage9 t'' other 4 oko co (by decide) (by decide)
  · exact stage9 t'' other (1 + k) oko co (by omega) (by omega)
set_option maxHeartbeats 500000 in
theorem law6 {ns : List Int} {p : Addr} {one : List Deed} {kd : Nat} {D : Ends3} (ok1 : okB 3 one) (c1 : cntB one ≤ 40) (stage7 : ∀ (t : Tp) (other : List Deed), 0 ≤ t.j → okB 5 other → cntB other ≤ 40 → (seq3 (asg3 (op2 add3 (c3 (.int 1)) (callT 1 T_pick (cons3 (c3 (.int 3)) nil3))) 5)  (seq3 (ifS3 (tst3 (op2 (eq3 false) (callT 1 T_pick (cons3 (c3 (.int 12)) nil3)) (c3 (.int 0)))) (asg3 (c3 (.int 4)) 5) next3)  (seq3 (asg3 (callF T_first_parted (cons3 (v3 2) (cons3 (v3 3) (cons3 (v3 5) nil3)))) 6)  (seq3 (forL3 (lst3 (cons3 (tup3 (cons3 (v3 2) (cons3 (v3 3) nil3))) (cons3 (tup3 (cons3 (v3 3) (cons3 (v3 2) nil3))) nil3))) (gp3 7 8) (seq3 (asg3 (callF T_books_part (cons3 (v3 7) (cons3 (v3 8) (cons3 (v3 5) nil3)))) 9)  (seq3 (ifS3 (tst3 (op2 (eq3 true) (op2 (isN3 false) (v3 9) (c3 .non)) (op2 (isN3 false) (v3 6) (c3 .non)))) (ret3 (c3 (.bl false))) next3)  (ifS3 (tst3 (op2 (isN3 true) (v3 9) (c3 .non))) (seq3 (ifS3 (or3 (not3 (tst3 (isiT .tup (v3 9)))) (or3 (tst3 (op2 (eq3 true) (call1 len3 (v3 9)) (c3 (.int 2)))) (not3 (tst3 (isiT .web (op2 ix3 (v3 9) (c3 (.int 0)))))))) (ret3 (c3 (.bl false))) next3)  (ifS3 (tst3 (op2 (eq3 true) (tup3 (cons3 (fld3 (fun n _ _ _ => .int n) (op2 ix3 (v3 9) (c3 (.int 0)))) (cons3 (fld3 (fun _ b _ _ => b) (op2 ix3 (v3 9) (c3 (.int 0)))) (cons3 (op2 ix3 (v3 9) (c3 (.int 1))) nil3)))) (v3 6))) (ret3 (c3 (.bl false))) next3)) next3))))  (ret3 (c3 (.bl true))))))) D [some (.im (.lst (ns.map D3.int))), some (.tp p t), some (.im (encB one)), some (.im (encB other)), some (.im (dn kd)), none, none, none, none, none]) (t : Tp) (other : List Deed) (hj : 0 ≤ t.j) (oko : okB 5 other) (co : cntB other ≤ 40) : (seq3 (ifS3 (and3 (tst3 (op2 (eq3 false) (v3 4) (c3 (.int 2)))) (tst3 (op2 lt3 (callF (T_many 3) (cons3 (v3 2) nil3)) (c3 (.int 18))))) (asg3 (tup3 (cons3 (tup3 (cons3 (c3 (.str "if")) (cons3 (callT 1 T_pick (cons3 (c3 (.int 4)) nil3)) (cons3 (v3 2) (cons3 (v3 2) nil3))))) nil3)) 3) next3)  (seq3 (asg3 (op2 add3 (c3 (.int 1)) (callT 1 T_pick (cons3 (c3 (.int 3)) nil3))) 5)  (seq3 (ifS3 (tst3 (op2 (eq3 false) (callT 1 T_pick (cons3 (c3 (.int 12)) nil3)) (c3 (.int 0)))) (asg3 (c3 (.int 4)) 5) next3)  (seq3 (asg3 (callF T_first_parted (cons3 (v3 2) (cons3 (v3 3) (cons3 (v3 5) nil3)))) 6)  (seq3 (forL3 (lst3 (cons3 (tup3 (cons3 (v3 2) (cons3 (v3 3) nil3))) (cons3 (tup3 (cons3 (v3 3) (cons3 (v3 2) nil3))) nil3))) (gp3 7 8) (seq3 (asg3 (callF T_books_part (cons3 (v3 7) (cons3 (v3 8) (cons3 (v3 5) nil3)))) 9)  (seq3 (ifS3 (tst3 (op2 (eq3 true) (op2 (isN3 false) (v3 9) (c3 .non)) (op2 (isN3 false) (v3 6) (c3 .non)))) (ret3 (c3 (.bl false))) next3)  (ifS3 (tst3 (op2 (isN3 true) (v3 9) (c3 .non))) (seq3 (ifS3 (or3 (not3 (tst3 (isiT .tup (v3 9)))) (or3 (tst3 (op2 (eq3 true) (call1 len3 (v3 9)) (c3 (.int 2)))) (not3 (tst3 (isiT .web (op2 ix3 (v3 9) (c3 (.int 0)))))))) (ret3 (c3 (.bl false))) next3)  (ifS3 (tst3 (op2 (eq3 true) (tup3 (cons3 (fld3 (fun n _ _ _ => .int n) (op2 ix3 (v3 9) (c3 (.int 0)))) (cons3 (fld3 (fun _ b _ _ => b) (op2 ix3 (v3 9) (c3 (.int 0)))) (cons3 (op2 ix3 (v3 9) (c3 (.int 1))) nil3)))) (v3 6))) (ret3 (c3 (.bl false))) next3)) next3))))  (ret3 (c3 (.bl true)))))))) D [some (.im (.lst (ns.map D3.int))), some (.tp p t), some (.im (encB one)), some (.im (encB other)), some (.im (dn kd)), none, none, none, none, none] := by
  refine ⟨_, rfl, fit_dn kd, fit_dn 2, _, rfl, ?_⟩
  refine ite_b (eq_dn kd 2) (fun _ => ?_) (fun _ => ?_)
  · refine ⟨_, rfl, _, rfl, one, rfl, ok1, by omega, _, rfl, ?_⟩
    refine ite_b (c := decide (((cntB one : Nat) : Int) < 18)) rfl (fun h => ?_) (fun _ => ?_)
    · have h := of_decide_eq_true h
      refine ⟨_, rfl, ⟨p, t, rfl⟩, _, rfl, p, t, rfl, 4, rfl, by decide, by decide, hj, fun x t' hx hj' => ?_⟩
      refine ⟨_, rfl, _, rfl, _, rfl, _, rfl, _, rfl, by show 4 ≤ 100000; decide, _, rfl, by show 1 ≤ 100000; decide, ?_⟩
      have e : encB [.cond x one one] = .tup [.tup [.str "if", dn x, encB one, encB one]] := by
        show D3.tup ([Deed.cond x one one].map encD) = _
        rw [List.map_cons, encD_cond]
        rfl
      rw [← e]
      refine stage7 t' [.cond x one one] hj' ⟨by simp, fun d hd => ?_⟩ ?_
      · rw [List.mem_singleton] at hd
        subst hd
        have : okD 4 (.cond x one one) := by
          unfold okD
          exact ⟨by omega, ok1, ok1⟩
        exact okD_up this
      · have : cntD (.cond x one one) = cntB one + cntB one + 1 := by rw [cntD]
        rw [cntB_cons, cntB_nil, this]
        omega
    · exact stage7 t other hj oko co
  · refine iteF ?_
    exact stage7 t other hj oko co
set_option maxHeartbeats 500000 in
theorem law5 {ns : List Int} {p : Addr} {one : List Deed} {kd : Nat} {D : Ends3} (ok1 : okB 3 one) (ok15 : okB 5 one) (c1 : cntB one ≤ 40) (stage6 : ∀ (t : Tp) (other : List Deed), 0 ≤ t.j → okB 5 other → cntB other ≤ 40 → (seq3 (ifS3 (and3 (tst3 (op2 (eq3 false) (v3 4) (c3 (.int 2)))) (tst3 (op2 lt3 (callF (T_many 3) (cons3 (v3 2) nil3)) (c3 (.int 18))))) (asg3 (tup3 (cons3 (tup3 (cons3 (c3 (.str "if")) (cons3 (callT 1 T_pick (cons3 (c3 (.int 4)) nil3)) (cons3 (v3 2) (cons3 (v3 2) nil3))))) nil3)) 3) next3)  (seq3 (asg3 (op2 add3 (c3 (.int 1)) (callT 1 T_pick (cons3 (c3 (.int 3)) nil3))) 5)  (seq3 (ifS3 (tst3 (op2 (eq3 false) (callT 1 T_pick (cons3 (c3 (.int 12)) nil3)) (c3 (.int 0)))) (asg3 (c3 (.int 4)) 5) next3)  (seq3 (asg3 (callF T_first_parted (cons3 (v3 2) (cons3 (v3 3) (cons3 (v3 5) nil3)))) 6)  (seq3 (forL3 (lst3 (cons3 (tup3 (cons3 (v3 2) (cons3 (v3 3) nil3))) (cons3 (tup3 (cons3 (v3 3) (cons3 (v3 2) nil3))) nil3))) (gp3 7 8) (seq3 (asg3 (callF T_books_part (cons3 (v3 7) (cons3 (v3 8) (cons3 (v3 5) nil3)))) 9)  (seq3 (ifS3 (tst3 (op2 (eq3 true) (op2 (isN3 false) (v3 9) (c3 .non)) (op2 (isN3 false) (v3 6) (c3 .non)))) (ret3 (c3 (.bl false))) next3)  (ifS3 (tst3 (op2 (isN3 true) (v3 9) (c3 .non))) (seq3 (ifS3 (or3 (not3 (tst3 (isiT .tup (v3 9)))) (or3 (tst3 (op2 (eq3 true) (call1 len3 (v3 9)) (c3 (.int 2)))) (not3 (tst3 (isiT .web (op2 ix3 (v3 9) (c3 (.int 0)))))))) (ret3 (c3 (.bl false))) next3)  (ifS3 (tst3 (op2 (eq3 true) (tup3 (cons3 (fld3 (fun n _ _ _ => .int n) (op2 ix3 (v3 9) (c3 (.int 0)))) (cons3 (fld3 (fun _ b _ _ => b) (op2 ix3 (v3 9) (c3 (.int 0)))) (cons3 (op2 ix3 (v3 9) (c3 (.int 1))) nil3)))) (v3 6))) (ret3 (c3 (.bl false))) next3)) next3))))  (ret3 (c3 (.bl true)))))))) D [some (.im (.lst (ns.map D3.int))), some (.tp p t), some (.im (encB one)), some (.im (encB other)), some (.im (dn kd)), none, none, none, none, none]) (t : Tp) (other : List Deed) (hj : 0 ≤ t.j) (oko : okB 5 other) (co : cntB other ≤ 40) : (seq3 (ifS3 (and3 (tst3 (op2 (eq3 false) (v3 4) (c3 (.int 1)))) (tst3 (op2 lt3 (callF (T_many 3) (cons3 (v3 2) nil3)) (c3 (.int 19))))) (asg3 (op2 add3 (v3 2) (v3 2)) 3) next3)  (seq3 (ifS3 (and3 (tst3 (op2 (eq3 false) (v3 4) (c3 (.int 2)))) (tst3 (op2 lt3 (callF (T_many 3) (cons3 (v3 2) nil3)) (c3 (.int 18))))) (asg3 (tup3 (cons3 (tup3 (cons3 (c3 (.str "if")) (cons3 (callT 1 T_pick (cons3 (c3 (.int 4)) nil3)) (cons3 (v3 2) (cons3 (v3 2) nil3))))) nil3)) 3) next3)  (seq3 (asg3 (op2 add3 (c3 (.int 1)) (callT 1 T_pick (cons3 (c3 (.int 3)) nil3))) 5)  (seq3 (ifS3 (tst3 (op2 (eq3 false) (callT 1 T_pick (cons3 (c3 (.int 12)) nil3)) (c3 (.int 0)))) (asg3 (c3 (.int 4)) 5) next3)  (seq3 (asg3 (callF T_first_parted (cons3 (v3 2) (cons3 (v3 3) (cons3 (v3 5) nil3)))) 6)  (seq3 (forL3 (lst3 (cons3 (tup3 (cons3 (v3 2) (cons3 (v3 3) nil3))) (cons3 (tup3 (cons3 (v3 3) (cons3 (v3 2) nil3))) nil3))) (gp3 7 8) (seq3 (asg3 (callF T_books_part (cons3 (v3 7) (cons3 (v3 8) (cons3 (v3 5) nil3)))) 9)  (seq3 (ifS3 (tst3 (op2 (eq3 true) (op2 (isN3 false) (v3 9) (c3 .non)) (op2 (isN3 false) (v3 6) (c3 .non)))) (ret3 (c3 (.bl false))) next3)  (ifS3 (tst3 (op2 (isN3 true) (v3 9) (c3 .non))) (seq3 (ifS3 (or3 (not3 (tst3 (isiT .tup (v3 9)))) (or3 (tst3 (op2 (eq3 true) (call1 len3 (v3 9)) (c3 (.int 2)))) (not3 (tst3 (isiT .web (op2 ix3 (v3 9) (c3 (.int 0)))))))) (ret3 (c3 (.bl false))) next3)  (ifS3 (tst3 (op2 (eq3 true) (tup3 (cons3 (fld3 (fun n _ _ _ => .int n) (op2 ix3 (v3 9) (c3 (.int 0)))) (cons3 (fld3 (fun _ b _ _ => b) (op2 ix3 (v3 9) (c3 (.int 0)))) (cons3 (op2 ix3 (v3 9) (c3 (.int 1))) nil3)))) (v3 6))) (ret3 (c3 (.bl false))) next3)) next3))))  (ret3 (c3 (.bl true))))))))) D [some (.im (.lst (ns.map D3.int))), some (.tp p t), some (.im (encB one)), some (.im (encB other)), some (.im (dn kd)), none, none, none, none, none] := by
  refine ⟨_, rfl, fit_dn kd, fit_dn 1, _, rfl, ?_⟩
  refine ite_b (eq_dn kd 1) (fun _ => ?_) (fun _ => ?_)
  · refine ⟨_, rfl, _, rfl, one, rfl, ok1, by omega, _, rfl, ?_⟩
    refine ite_b (c := decide (((cntB one : Nat) : Int) < 19)) rfl (fun h => ?_) (fun _ => ?_)
    · have h := of_decide_eq_true h
      have hl := len_cnt one
      refine ⟨_, rfl, _, rfl, by rw [List.length_map]; omega, ?_⟩
      rw [← List.map_append]
      exact stage6 t (one ++ one) hj (okB_app ok15 ok15) (by rw [cntB_app]; omega)
    · exact stage6 t other hj oko co
  · refine iteF ?_
    exact stage6 t other hj oko co
set_option maxHeartbeats 500000 in
theorem law4 {ns : List Int} {p : Addr} {one : List Deed} {kd : Nat} {D : Ends3} (ok1 : okB 3 one) (ok15 : okB 5 one) (c1 : cntB one ≤ 40) (stage5 : ∀ (t : Tp) (other : List Deed), 0 ≤ t.j → okB 5 other → cntB other ≤ 40 → (seq3 (ifS3 (and3 (tst3 (op2 (eq3 false) (v3 4) (c3 (.int 1)))) (tst3 (op2 lt3 (callF (T_many 3) (cons3 (v3 2) nil3)) (c3 (.int 19))))) (asg3 (op2 add3 (v3 2) (v3 2)) 3) next3)  (seq3 (ifS3 (and3 (tst3 (op2 (eq3 false) (v3 4) (c3 (.int 2)))) (tst3 (op2 lt3 (callF (T_many 3) (cons3 (v3 2) nil3)) (c3 (.int 18))))) (asg3 (tup3 (cons3 (tup3 (cons3 (c3 (.str "if")) (cons3 (callT 1 T_pick (cons3 (c3 (.int 4)) nil3)) (cons3 (v3 2) (cons3 (v3 2) nil3))))) nil3)) 3) next3)  (seq3 (asg3 (op2 add3 (c3 (.int 1)) (callT 1 T_pick (cons3 (c3 (.int 3)) nil3))) 5)  (seq3 (ifS3 (tst3 (op2 (eq3 false) (callT 1 T_pick (cons3 (c3 (.int 12)) nil3)) (c3 (.int 0)))) (asg3 (c3 (.int 4)) 5) next3)  (seq3 (asg3 (callF T_first_parted (cons3 (v3 2) (cons3 (v3 3) (cons3 (v3 5) nil3)))) 6)  (seq3 (forL3 (lst3 (cons3 (tup3 (cons3 (v3 2) (cons3 (v3 3) nil3))) (cons3 (tup3 (cons3 (v3 3) (cons3 (v3 2) nil3))) nil3))) (gp3 7 8) (seq3 (asg3 (callF T_books_part (cons3 (v3 7) (cons3 (v3 8) (cons3 (v3 5) nil3)))) 9)  (seq3 (ifS3 (tst3 (op2 (eq3 true) (op2 (isN3 false) (v3 9) (c3 .non)) (op2 (isN3 false) (v3 6) (c3 .non)))) (ret3 (c3 (.bl false))) next3)  (ifS3 (tst3 (op2 (isN3 true) (v3 9) (c3 .non))) (seq3 (ifS3 (or3 (not3 (tst3 (isiT .tup (v3 9)))) (or3 (tst3 (op2 (eq3 true) (call1 len3 (v3 9)) (c3 (.int 2)))) (not3 (tst3 (isiT .web (op2 ix3 (v3 9) (c3 (.int 0)))))))) (ret3 (c3 (.bl false))) next3)  (ifS3 (tst3 (op2 (eq3 true) (tup3 (cons3 (fld3 (fun n _ _ _ => .int n) (op2 ix3 (v3 9) (c3 (.int 0)))) (cons3 (fld3 (fun _ b _ _ => b) (op2 ix3 (v3 9) (c3 (.int 0)))) (cons3 (op2 ix3 (v3 9) (c3 (.int 1))) nil3)))) (v3 6))) (ret3 (c3 (.bl false))) next3)) next3))))  (ret3 (c3 (.bl true))))))))) D [some (.im (.lst (ns.map D3.int))), some (.tp p t), some (.im (encB one)), some (.im (encB other)), some (.im (dn kd)), none, none, none, none, none]) (t : Tp) (other : List Deed) (hj : 0 ≤ t.j) (oko : okB 5 other) (co : cntB other ≤ 40) : (seq3 (ifS3 (and3 (tst3 (op2 (eq3 false) (v3 4) (c3 (.int 0)))) (tst3 (op2 lt3 (callF (T_many 3) (cons3 (v3 2) nil3)) (c3 (.int 39))))) (asg3 (op2 add3 (v3 2) (tup3 (cons3 (tup3 (cons3 (c3 (.str "front")) nil3)) nil3))) 3) next3)  (seq3 (ifS3 (and3 (tst3 (op2 (eq3 false) (v3 4) (c3 (.int 1)))) (tst3 (op2 lt3 (callF (T_many 3) (cons3 (v3 2) nil3)) (c3 (.int 19))))) (asg3 (op2 add3 (v3 2) (v3 2)) 3) next3)  (seq3 (ifS3 (and3 (tst3 (op2 (eq3 false) (v3 4) (c3 (.int 2)))) (tst3 (op2 lt3 (callF (T_many 3) (cons3 (v3 2) nil3)) (c3 (.int 18))))) (asg3 (tup3 (cons3 (tup3 (cons3 (c3 (.str "if")) (cons3 (callT 1 T_pick (cons3 (c3 (.int 4)) nil3)) (cons3 (v3 2) (cons3 (v3 2) nil3))))) nil3)) 3) next3)  (seq3 (asg3 (op2 add3 (c3 (.int 1)) (callT 1 T_pick (cons3 (c3 (.int 3)) nil3))) 5)  (seq3 (ifS3 (tst3 (op2 (eq3 false) (callT 1 T_pick (cons3 (c3 (.int 12)) nil3)) (c3 (.int 0)))) (asg3 (c3 (.int 4)) 5) next3)  (seq3 (asg3 (callF T_first_parted (cons3 (v3 2) (cons3 (v3 3) (cons3 (v3 5) nil3)))) 6)  (seq3 (forL3 (lst3 (cons3 (tup3 (cons3 (v3 2) (cons3 (v3 3) nil3))) (cons3 (tup3 (cons3 (v3 3) (cons3 (v3 2) nil3))) nil3))) (gp3 7 8) (seq3 (asg3 (callF T_books_part (cons3 (v3 7) (cons3 (v3 8) (cons3 (v3 5) nil3)))) 9)  (seq3 (ifS3 (tst3 (op2 (eq3 true) (op2 (isN3 false) (v3 9) (c3 .non)) (op2 (isN3 false) (v3 6) (c3 .non)))) (ret3 (c3 (.bl false))) next3)  (ifS3 (tst3 (op2 (isN3 true) (v3 9) (c3 .non))) (seq3 (ifS3 (or3 (not3 (tst3 (isiT .tup (v3 9)))) (or3 (tst3 (op2 (eq3 true) (call1 len3 (v3 9)) (c3 (.int 2)))) (not3 (tst3 (isiT .web (op2 ix3 (v3 9) (c3 (.int 0)))))))) (ret3 (c3 (.bl false))) next3)  (ifS3 (tst3 (op2 (eq3 true) (tup3 (cons3 (fld3 (fun n _ _ _ => .int n) (op2 ix3 (v3 9) (c3 (.int 0)))) (cons3 (fld3 (fun _ b _ _ => b) (op2 ix3 (v3 9) (c3 (.int 0)))) (cons3 (op2 ix3 (v3 9) (c3 (.int 1))) nil3)))) (v3 6))) (ret3 (c3 (.bl false))) next3)) next3))))  (ret3 (c3 (.bl true)))))))))) D [some (.im (.lst (ns.map D3.int))), some (.tp p t), some (.im (encB one)), some (.im (encB other)), some (.im (dn kd)), none, none, none, none, none] := by
  refine ⟨_, rfl, fit_dn kd, fit_dn 0, _, rfl, ?_⟩
  refine ite_b (eq_dn kd 0) (fun _ => ?_) (fun _ => ?_)
  · refine ⟨_, rfl, _, rfl, one, rfl, ok1, by omega, _, rfl, ?_⟩
    refine ite_b (c := decide (((cntB one : Nat) : Int) < 39)) rfl (fun h => ?_) (fun _ => ?_)
    · have h := of_decide_eq_true h
      have hl := len_cnt one
      refine ⟨_, rfl, _, rfl, by show 1 ≤ 100000; decide, _, rfl, by show 1 ≤ 100000; decide, by rw [List.length_map]; show one.length + 1 ≤ 100000; omega, ?_⟩
      have e : D3.tup (one.map encD ++ [.tup [.str "front"]]) = encB (one ++ [.front]) := by
        unfold encB
        rw [List.map_append, List.map_cons, encD_front]
        rfl
      have h5 := stage5 t (one ++ [.front]) hj (okB_app ok15 (okB_f 5)) (by rw [cntB_app, cnt_f]; omega)
      rw [← e] at h5
      exact h5
    · exact stage5 t other hj oko co
  · refine iteF ?_
    exact stage5 t other hj oko co
set_option maxHeartbeats 500000 in
theorem r_law {ds : List D3} {Q : R3 → Prop} (h : T_law ds Q) : t_law T_tape T_book T_pick (T_many 3) T_first_parted T_books_part { nx := fun _ => Q (.im .non), rt := fun r _ => Q r } (start3 N_law ds) := by
  obtain ⟨ns, rfl, ev, q⟩ := h
  refine ⟨_, rfl, _, rfl, ns, rfl, fun p t hj => ?_⟩
  refine ⟨⟨p, t, rfl⟩, p, t, rfl, rfl, hj, fun one t1 ok1 c1 hj1 => ?_⟩
  refine ⟨⟨p, t1, rfl⟩, p, t1, rfl, rfl, hj1, fun other0 t2 ok2 c2 hj2 => ?_⟩
  refine ⟨⟨p, t2, rfl⟩, _, rfl, p, t2, rfl, 5, rfl, by decide, by decide, hj2, fun kd t3 hkd hj3 => ?_⟩
  have ok15 : okB 5 one := okB_up (okB_up ok1)
  have s9 := law9 (ns := ns) (p := p) (kd := kd) (D := { nx := fun _ => Q (.im .non), rt := fun r _ => Q r }) (fun _ => q) ok15 c1 ev
  have s7 := law7 s9
  have s6 := law6 ok1 c1 s7
  have s5 := law5 ok1 ok15 c1 s6
  exact law4 ok1 ok15 c1 s5 t3 other0 hj3 (okB_up (okB_up ok2)) c2
end L3

set_option Elab.async false
set_option autoImplicit false
set_option linter.all false
set_option maxRecDepth 100000
/-! L3, part C: the joining (printed by gen2.py). -/
namespace L3
open PySem PySem.Spec L2
theorem void3 {P : Program} {w : World} {K : PySem.W.Frag} {mg : Str → Option Value} {base : Heap} {f : Addr} {fd : FuncData} {ps : List Str} {g : Gx} : FnOk P w K mg base CX0 0 f fd ps (sp3 g fun _ _ => False) :=
  ⟨fun _ _ _ _ h => by obtain ⟨_, _, _, _, _, h, _⟩ := h; exact h.elim, fun _ _ _ _ _ _ _ _ _ _ _ _ _ h => by obtain ⟨_, _, _, _, _, h, _⟩ := h; exact h.elim⟩
theorem voidT {P : Program} {w : World} {K : PySem.W.Frag} {mg : Str → Option Value} {base : Heap} {f : Addr} {fd : FuncData} {ps : List Str} {g : Gx} : FnOk P w K mg base CX0 0 f fd ps (spT g fun _ _ _ => False) :=
  ⟨fun _ _ _ _ h => by obtain ⟨_, _, _, _, _, _, _, _, _, _, h, _⟩ := h; exact h.elim, fun _ _ _ _ _ _ _ _ _ _ _ _ _ h => by obtain ⟨_, _, _, _, _, _, _, _, _, _, h, _⟩ := h; exact h.elim⟩
theorem evAll : ∀ n, 1 ≤ n → n ≤ 4 → EvOk n
  | 0, h, _ => absurd h (by decide)
  | 1, _, _ => evOk_of evOk1
  | 2, _, _ => evOk_of evOk2
  | 3, _, _ => evOk_of evOk3
  | 4, _, _ => evOk_of evOk4
  | n + 5, _, h => by omega
/-- law's promise -/
def spLaw (K : PySem.W.Frag) : Sp := fun vs H Q _ => ∃ (p : Addr) (zs : List Int), vs = [.ref p] ∧ SqL K H p (zs.map V.int) ∧ ∀ H2, Q (.bl true) H2
section
variable {P : Program} {w : World} {K : PySem.W.Frag} {mg : Str → Option Value} {base : Heap} {C Wb : Addr}
set_option maxHeartbeats 1500000 in
theorem all_ok (M : Mods mg)
  (WC : WebC K C)
  (WI : WebI K C Wb)
  (m_Web : mg "Web" = some (.ref Wb))
  (m_RawWeb : mg "RawWeb" = some (.ref C))
  {f_is_integer : Addr} {d_is_integer : FuncData} (U_is_integer : Callee K mg "is_integer" f_is_integer d_is_integer ["thing"]) (F_is_integer : Fun K "is_integer" "is_integer" (topS 6) f_is_integer d_is_integer)
  {f_is_within : Addr} {d_is_within : FuncData} (U_is_within : Callee K mg "is_within" f_is_within d_is_within ["thing", "least", "most"]) (F_is_within : Fun K "is_within" "is_within" (topS 7) f_is_within d_is_within)
  {f_check_number : Addr} {d_check_number : FuncData} (U_check_number : Callee K mg "check_number" f_check_number d_check_number ["thing", "least", "most"]) (F_check_number : Fun K "check_number" "check_number" (topS 11) f_check_number d_check_number)
  {f_closed : Addr} {d_closed : FuncData} (U_closed : Callee K mg "closed" f_closed d_closed ["many", "pairs"]) (F_closed : Fun K "closed" "closed" (topS 14) f_closed d_closed)
  {f_raw_web : Addr} {d_raw_web : FuncData} (U_raw_web : Callee K mg "raw_web" f_raw_web d_raw_web ["many", "every"]) (F_raw_web : Fun K "raw_web" "raw_web" (topS 18) f_raw_web d_raw_web)
  {f_free_names : Addr} {d_free_names : FuncData} (U_free_names : Callee K mg "free_names" f_free_names d_free_names ["web", "lot"]) (F_free_names : Fun K "free_names" "free_names" (topS 19) f_free_names d_free_names)
  {f_every_web : Addr} {d_every_web : FuncData} (U_every_web : Callee K mg "every_web" f_every_web d_every_web ["many"]) (F_every_web : Fun K "every_web" "every_web" (topS 21) f_every_web d_every_web)
  {f_webs_up_to : Addr} {d_webs_up_to : FuncData} (U_webs_up_to : Callee K mg "webs_up_to" f_webs_up_to d_webs_up_to ["many"]) (F_webs_up_to : Fun K "webs_up_to" "webs_up_to" (topS 22) f_webs_up_to d_webs_up_to)
  {f_all_orders : Addr} {d_all_orders : FuncData} (U_all_orders : Callee K mg "all_orders" f_all_orders d_all_orders ["web"]) (F_all_orders : Fun K "all_orders" "all_orders" (topS 24) f_all_orders d_all_orders)
  {f_deeds_in : Addr} {d_deeds_in : FuncData} (U_deeds_in : Callee K mg "deeds_in" f_deeds_in d_deeds_in ["thing", "deep"]) (F_deeds_in : Fun K "deeds_in" "deeds_in" (topS 30) f_deeds_in d_deeds_in)
  {f_deeds_of : Addr} {d_deeds_of : FuncData} (U_deeds_of : Callee K mg "deeds_of" f_deeds_of d_deeds_of ["thing", "deep"]) (F_deeds_of : Fun K "deeds_of" "deeds_of" (topS 31) f_deeds_of d_deeds_of)
  {f_is_book : Addr} {d_is_book : FuncData} (U_is_book : Callee K mg "is_book" f_is_book d_is_book ["thing"]) (F_is_book : Fun K "is_book" "is_book" (topS 32) f_is_book d_is_book)
  {f_check_book : Addr} {d_check_book : FuncData} (U_check_book : Callee K mg "check_book" f_check_book d_check_book ["thing"]) (F_check_book : Fun K "check_book" "check_book" (topS 33) f_check_book d_check_book)
  {f_next_side : Addr} {d_next_side : FuncData} (U_next_side : Callee K mg "next_side" f_next_side d_next_side ["book", "todo", "left"]) (F_next_side : Fun K "next_side" "next_side" (topS 34) f_next_side d_next_side)
  {f_side_of : Addr} {d_side_of : FuncData} (U_side_of : Callee K mg "side_of" f_side_of d_side_of ["book", "todo", "left", "many"]) (F_side_of : Fun K "side_of" "side_of" (topS 35) f_side_of d_side_of)
  {f_choices : Addr} {d_choices : FuncData} (U_choices : Callee K mg "choices" f_choices d_choices ["web", "side", "left"]) (F_choices : Fun K "choices" "choices" (topS 36) f_choices d_choices)
  {f_chance_by : Addr} {d_chance_by : FuncData} (U_chance_by : Callee K mg "chance_by" f_chance_by d_chance_by ["web", "book", "order"]) (F_chance_by : Fun K "chance_by" "chance_by" (topS 37) f_chance_by d_chance_by)
  {f_books_part : Addr} {d_books_part : FuncData} (U_books_part : Callee K mg "books_part" f_books_part d_books_part ["one", "other", "many"]) (F_books_part : Fun K "books_part" "books_part" (topS 38) f_books_part d_books_part)
  {f__law_tape : Addr} {d__law_tape : FuncData} (U__law_tape : Callee K mg "_law_tape" f__law_tape d__law_tape ["_law_script"]) (F__law_tape : Fun K "_law_tape" "_law_tape" (topS 40) f__law_tape d__law_tape)
  {f__law_pick : Addr} {d__law_pick : FuncData} (U__law_pick : Callee K mg "_law_pick" f__law_pick d__law_pick ["_law_tape_here", "_law_many"]) (F__law_pick : Fun K "_law_pick" "_law_pick" (topS 41) f__law_pick d__law_pick)
  {f__law_free : Addr} {d__law_free : FuncData} (U__law_free : Callee K mg "_law_free" f__law_free d__law_free ["_law_befores", "_law_many", "_law_row"]) (F__law_free : Fun K "_law_free" "_law_free" (topS 42) f__law_free d__law_free)
  {f__law_orders : Addr} {d__law_orders : FuncData} (U__law_orders : Callee K mg "_law_orders" f__law_orders d__law_orders ["_law_befores", "_law_many"]) (F__law_orders : Fun K "_law_orders" "_law_orders" (topS 43) f__law_orders d__law_orders)
  {f__law_every : Addr} {d__law_every : FuncData} (U__law_every : Callee K mg "_law_every" f__law_every d__law_every ["_law_many"]) (F__law_every : Fun K "_law_every" "_law_every" (topS 44) f__law_every d__law_every)
  {f__law_can_stand : Addr} {d__law_can_stand : FuncData} (U__law_can_stand : Callee K mg "_law_can_stand" f__law_can_stand d__law_can_stand ["_law_befores", "_law_name", "_law_sides"]) (F__law_can_stand : Fun K "_law_can_stand" "_law_can_stand" (topS 45) f__law_can_stand d__law_can_stand)
  {f__law_put_in : Addr} {d__law_put_in : FuncData} (U__law_put_in : Callee K mg "_law_put_in" f__law_put_in d__law_put_in ["_law_befores", "_law_name", "_law_sides"]) (F__law_put_in : Fun K "_law_put_in" "_law_put_in" (topS 46) f__law_put_in d__law_put_in)
  {f__law_by_book : Addr} {d__law_by_book : FuncData} (U__law_by_book : Callee K mg "_law_by_book" f__law_by_book d__law_by_book ["_law_befores", "_law_many", "_law_book_here", "_law_order"]) (F__law_by_book : Fun K "_law_by_book" "_law_by_book" (topS 47) f__law_by_book d__law_by_book)
  {f__law_deeds : Addr} {d__law_deeds : FuncData} (U__law_deeds : Callee K mg "_law_deeds" f__law_deeds d__law_deeds ["_law_tape_here", "_law_deep", "_law_most"]) (F__law_deeds : Fun K "_law_deeds" "_law_deeds" (topS 48) f__law_deeds d__law_deeds)
  {f__law_many_deeds : Addr} {d__law_many_deeds : FuncData} (U__law_many_deeds : Callee K mg "_law_many_deeds" f__law_many_deeds d__law_many_deeds ["_law_deeds_here"]) (F__law_many_deeds : Fun K "_law_many_deeds" "_law_many_deeds" (topS 49) f__law_many_deeds d__law_many_deeds)
  {f__law_book : Addr} {d__law_book : FuncData} (U__law_book : Callee K mg "_law_book" f__law_book d__law_book ["_law_tape_here"]) (F__law_book : Fun K "_law_book" "_law_book" (topS 50) f__law_book d__law_book)
  {f__law_first_parted : Addr} {d__law_first_parted : FuncData} (U__law_first_parted : Callee K mg "_law_first_parted" f__law_first_parted d__law_first_parted ["_law_one", "_law_other", "_law_many"]) (F__law_first_parted : Fun K "_law_first_parted" "_law_first_parted" (topS 51) f__law_first_parted d__law_first_parted)
  {f_law : Addr} {d_law : FuncData} (U_law : Callee K mg "law" f_law d_law ["_law_script"]) (F_law : Fun K "law" "law" (topS 52) f_law d_law)
  {f_keep f_init : Addr} {d_keep d_init : FuncData} (mt_keep : Meth K C "keep" f_keep) (b_keep : Binds K d_keep ["self", "many", "every"] []) (F_keep : Fun K "keep" "Web.keep" (inClass (topS 16) 1) f_keep d_keep) (mk_ : Mk K C f_init) (b_init : Binds K d_init ["self", "many", "every"] []) (F_init : Fun K "__init__" "RawWeb.__init__" (inClass (topS 17) 0) f_init d_init) : FnOk P w K mg base CX0 18 f_law d_law ["_law_script"] (spLaw K) := by
  have G_is_integer : FnOk P w K mg base CX0 1 f_is_integer d_is_integer ["thing"] (sp3 ⟨K, C, P, w⟩ T_is_integer) := def3 F_is_integer sc_is_integer (fun ds Q h => by obtain ⟨_, rfl, _⟩ := h; rfl) (by decide) (fun cdv A outer s H E hr => b_is_integer M cdv A outer s H E hr) fun ds Q h => r_is_integer h
  have G_is_within : FnOk P w K mg base CX0 2 f_is_within d_is_within ["thing", "least", "most"] (sp3 ⟨K, C, P, w⟩ T_is_within) := def3 F_is_within sc_is_within (fun ds Q h => by obtain ⟨_, _, _, rfl, _⟩ := h; rfl) (by decide) (fun cdv A outer s H E hr => b_is_within M U_is_integer G_is_integer (by decide) cdv A outer s H E hr) fun ds Q h => r_is_within h
  have G_check_number : FnOk P w K mg base CX0 3 f_check_number d_check_number ["thing", "least", "most"] (sp3 ⟨K, C, P, w⟩ T_check_number) := def3 F_check_number sc_check_number (fun ds Q h => by obtain ⟨_, _, _, rfl, _⟩ := h; rfl) (by decide) (fun cdv A outer s H E hr => b_check_number M U_is_within G_is_within (by decide) cdv A outer s H E hr) fun ds Q h => r_check_number h
  have G_closed : FnOk P w K mg base CX0 1 f_closed d_closed ["many", "pairs"] (sp3 ⟨K, C, P, w⟩ T_closed) := def3 F_closed sc_closed (fun ds Q h => by obtain ⟨_, _, rfl, _⟩ := h; rfl) (by decide) (fun cdv A outer s H E hr => b_closed M cdv A outer s H E hr) fun ds Q h => r_closed h
  have G_keep : FnOk P w K mg base CX0 1 f_keep d_keep ["self", "many", "every"] (spO ⟨K, C, P, w⟩ T_keep) := defO F_keep sc_Web_keep (fun fs ds Q h => by obtain ⟨_, _, _, rfl, _⟩ := h; rfl) (by decide) (fun cdv A outer s H E hr => b_Web_keep M WC cdv A outer s H E hr) fun p fs ds Q h => r_keep h
  have G_init : FnOk P w K mg base CX0 2 f_init d_init ["self", "many", "every"] (spO ⟨K, C, P, w⟩ T_keep) := defO F_init sc_RawWeb_init (fun fs ds Q h => by obtain ⟨_, _, _, rfl, _⟩ := h; rfl) (by decide) (fun cdv A outer s H E hr => b_RawWeb_init M WC.cl mt_keep b_keep G_keep (by decide) cdv A outer s H E hr) fun p fs ds Q h => r_init h
  have G_raw_web : FnOk P w K mg base CX0 4 f_raw_web d_raw_web ["many", "every"] (sp3 ⟨K, C, P, w⟩ T_raw_web) := def3 F_raw_web sc_raw_web (fun ds Q h => by obtain ⟨_, _, rfl, _⟩ := h; rfl) (by decide) (fun cdv A outer s H E hr => b_raw_web M mk_ m_RawWeb b_init G_init (by decide) cdv A outer s H E hr) fun ds Q h => r_raw_web h
  have G_free_names : FnOk P w K mg base CX0 1 f_free_names d_free_names ["web", "lot"] (sp3 ⟨K, C, P, w⟩ T_free_names) := def3 F_free_names sc_free_names (fun ds Q h => by obtain ⟨_, _, _, rfl, _⟩ := h; rfl) (by decide) (fun cdv A outer s H E hr => b_free_names M WC cdv A outer s H E hr) fun ds Q h => r_free_names h
  have G_every_web : FnOk P w K mg base CX0 5 f_every_web d_every_web ["many"] (sp3 ⟨K, C, P, w⟩ T_every_web) := def3 F_every_web sc_every_web (fun ds Q h => by obtain ⟨_, rfl, _⟩ := h; rfl) (by decide) (fun cdv A outer s H E hr => b_every_web M U_closed G_closed (by decide) U_raw_web G_raw_web (by decide) cdv A outer s H E hr) fun ds Q h => r_every_web h
  have G_webs_up_to : FnOk P w K mg base CX0 6 f_webs_up_to d_webs_up_to ["many"] (sp3 ⟨K, C, P, w⟩ T_webs_up_to) := def3 F_webs_up_to sc_webs_up_to (fun ds Q h => by obtain ⟨_, rfl, _⟩ := h; rfl) (by decide) (fun cdv A outer s H E hr => b_webs_up_to M U_every_web G_every_web (by decide) cdv A outer s H E hr) fun ds Q h => r_webs_up_to h
  have G_all_orders : FnOk P w K mg base CX0 2 f_all_orders d_all_orders ["web"] (sp3 ⟨K, C, P, w⟩ T_all_orders) := def3 F_all_orders sc_all_orders (fun ds Q h => by obtain ⟨_, _, rfl, _⟩ := h; rfl) (by decide) (fun cdv A outer s H E hr => b_all_orders M U_free_names G_free_names (by decide) WC cdv A outer s H E hr) fun ds Q h => r_all_orders h
  have G_of : ∀ (j kk : Nat), kk ≤ 2 * j + 2 → FnOk P w K mg base CX0 kk f_deeds_in d_deeds_in ["thing", "deep"] (sp3 ⟨K, C, P, w⟩ (TinP j)) → FnOk P w K mg base CX0 (2 * j + 2 + 1) f_deeds_of d_deeds_of ["thing", "deep"] (sp3 ⟨K, C, P, w⟩ (T_of j)) := fun j kk hk G_deeds_in =>
    def3 F_deeds_of sc_deeds_of (fun ds Q h => by obtain ⟨_, _, rfl, _⟩ := h; rfl) (by decide) (fun cdv A outer s H E hr => b_deeds_of M U_is_within G_is_within (by omega) U_deeds_in G_deeds_in hk cdv A outer s H E hr) fun ds Q h => r_deeds_of h
  have G_in : ∀ (j : Nat), FnOk P w K mg base CX0 (2 * j + 2 + 1) f_deeds_of d_deeds_of ["thing", "deep"] (sp3 ⟨K, C, P, w⟩ (T_of j)) → FnOk P w K mg base CX0 (2 * j + 3 + 1) f_deeds_in d_deeds_in ["thing", "deep"] (sp3 ⟨K, C, P, w⟩ (T_in j)) := fun j G_deeds_of =>
    def3 F_deeds_in sc_deeds_in (fun ds Q h => by obtain ⟨_, _, rfl, _⟩ := h; rfl) (by decide) (fun cdv A outer s H E hr => b_deeds_in M U_deeds_of G_deeds_of (by omega) cdv A outer s H E hr) fun ds Q h => r_deeds_in h
  have G_all : ∀ j : Nat, FnOk P w K mg base CX0 (2 * j + 3 + 1) f_deeds_in d_deeds_in ["thing", "deep"] (sp3 ⟨K, C, P, w⟩ (T_in j)) := by
    intro j
    induction j with
    | zero => exact G_in 0 (G_of 0 0 (Nat.zero_le _) void3)
    | succ j ih => exact G_in (j + 1) (G_of (j + 1) (2 * j + 3 + 1) (by omega) ih)
  have G_deeds_in : FnOk P w K mg base CX0 14 f_deeds_in d_deeds_in ["thing", "deep"] (sp3 ⟨K, C, P, w⟩ (T_in 5)) := G_all 5
  have G_is_book : FnOk P w K mg base CX0 15 f_is_book d_is_book ["thing"] (sp3 ⟨K, C, P, w⟩ T_is_book) := def3 F_is_book sc_is_book (fun ds Q h => by obtain ⟨_, rfl, _⟩ := h; rfl) (by decide) (fun cdv A outer s H E hr => b_is_book M U_deeds_in G_deeds_in (by decide) cdv A outer s H E hr) fun ds Q h => r_is_book h
  have G_check_book : FnOk P w K mg base CX0 16 f_check_book d_check_book ["thing"] (sp3 ⟨K, C, P, w⟩ T_check_book) := def3 F_check_book sc_check_book (fun ds Q h => by obtain ⟨_, rfl, _⟩ := h; rfl) (by decide) (fun cdv A outer s H E hr => b_check_book M U_is_book G_is_book (by decide) cdv A outer s H E hr) fun ds Q h => r_check_book h
  have G_next_side : FnOk P w K mg base CX0 1 f_next_side d_next_side ["book", "todo", "left"] (sp3 ⟨K, C, P, w⟩ T_next_side) := def3 F_next_side sc_next_side (fun ds Q h => by obtain ⟨_, _, _, rfl, _⟩ := h; rfl) (by decide) (fun cdv A outer s H E hr => b_next_side M cdv A outer s H E hr) fun ds Q h => r_next_side h
  have G_side_of : FnOk P w K mg base CX0 2 f_side_of d_side_of ["book", "todo", "left", "many"] (sp3 ⟨K, C, P, w⟩ T_side_of) := def3 F_side_of sc_side_of (fun ds Q h => by obtain ⟨_, _, _, _, rfl, _⟩ := h; rfl) (by decide) (fun cdv A outer s H E hr => b_side_of M U_next_side G_next_side (by decide) cdv A outer s H E hr) fun ds Q h => r_side_of h
  have G_choices : FnOk P w K mg base CX0 1 f_choices d_choices ["web", "side", "left"] (sp3 ⟨K, C, P, w⟩ T_choices) := def3 F_choices sc_choices (fun ds Q h => by obtain ⟨_, _, _, _, rfl, _⟩ := h; rfl) (by decide) (fun cdv A outer s H E hr => b_choices M WC cdv A outer s H E hr) fun ds Q h => r_choices h
  have G_chance_by : FnOk P w K mg base CX0 3 f_chance_by d_chance_by ["web", "book", "order"] (sp3 ⟨K, C, P, w⟩ T_chance) := def3 F_chance_by sc_chance_by (fun ds Q h => by obtain ⟨_, _, _, _, rfl, _⟩ := h; rfl) (by decide) (fun cdv A outer s H E hr => b_chance_by M U_side_of G_side_of (by decide) U_choices G_choices (by decide) WC cdv A outer s H E hr) fun ds Q h => r_chance h
  have G_books_part : FnOk P w K mg base CX0 17 f_books_part d_books_part ["one", "other", "many"] (sp3 ⟨K, C, P, w⟩ T_books_part) := def3 F_books_part sc_books_part (fun ds Q h => by obtain ⟨_, _, _, rfl, _⟩ := h; rfl) (by decide) (fun cdv A outer s H E hr => b_books_part M U_check_book G_check_book (by decide) U_check_number G_check_number (by decide) U_chance_by G_chance_by (by decide) U_all_orders G_all_orders (by decide) U_webs_up_to G_webs_up_to (by decide) cdv A outer s H E hr) fun ds Q h => r_books_part h
  have G__law_tape : FnOk P w K mg base CX0 1 f__law_tape d__law_tape ["_law_script"] (sp3 ⟨K, C, P, w⟩ T_tape) := def3 F__law_tape sc__law_tape (fun ds Q h => by obtain ⟨_, rfl, _⟩ := h; rfl) (by decide) (fun cdv A outer s H E hr => b__law_tape M cdv A outer s H E hr) fun ds Q h => r_tape h
  have G__law_pick : FnOk P w K mg base CX0 1 f__law_pick d__law_pick ["_law_tape_here", "_law_many"] (spT ⟨K, C, P, w⟩ T_pick) := defT F__law_pick sc__law_pick (fun tp ds Q h => by obtain ⟨_, rfl, _⟩ := h; rfl) (by decide) (fun cdv A outer s H E hr => b__law_pick M cdv A outer s H E hr) fun p tp ds Q h => r_pick h
  have G__law_free : FnOk P w K mg base CX0 1 f__law_free d__law_free ["_law_befores", "_law_many", "_law_row"] (sp3 ⟨K, C, P, w⟩ T_law_free) := def3 F__law_free sc__law_free (fun ds Q h => by obtain ⟨_, _, _, rfl, _⟩ := h; rfl) (by decide) (fun cdv A outer s H E hr => b__law_free M cdv A outer s H E hr) fun ds Q h => r_law_free h
  have G__law_orders : FnOk P w K mg base CX0 2 f__law_orders d__law_orders ["_law_befores", "_law_many"] (sp3 ⟨K, C, P, w⟩ T_law_orders) := def3 F__law_orders sc__law_orders (fun ds Q h => by obtain ⟨_, _, rfl, _⟩ := h; rfl) (by decide) (fun cdv A outer s H E hr => b__law_orders M U__law_free G__law_free (by decide) cdv A outer s H E hr) fun ds Q h => r_law_orders h
  have G__law_can_stand : FnOk P w K mg base CX0 1 f__law_can_stand d__law_can_stand ["_law_befores", "_law_name", "_law_sides"] (sp3 ⟨K, C, P, w⟩ T_can) := def3 F__law_can_stand sc__law_can_stand (fun ds Q h => by obtain ⟨_, _, _, rfl, _⟩ := h; rfl) (by decide) (fun cdv A outer s H E hr => b__law_can_stand M cdv A outer s H E hr) fun ds Q h => r_can h
  have G__law_put_in : FnOk P w K mg base CX0 1 f__law_put_in d__law_put_in ["_law_befores", "_law_name", "_law_sides"] (sp3 ⟨K, C, P, w⟩ T_put) := def3 F__law_put_in sc__law_put_in (fun ds Q h => by obtain ⟨_, _, _, rfl, _⟩ := h; rfl) (by decide) (fun cdv A outer s H E hr => b__law_put_in M cdv A outer s H E hr) fun ds Q h => r_put h
  have G__law_every : FnOk P w K mg base CX0 2 f__law_every d__law_every ["_law_many"] (sp3 ⟨K, C, P, w⟩ T_law_every) := def3 F__law_every sc__law_every (fun ds Q h => by obtain ⟨_, rfl, _⟩ := h; rfl) (by decide) (fun cdv A outer s H E hr => b__law_every M U__law_can_stand G__law_can_stand (by decide) U__law_put_in G__law_put_in (by decide) cdv A outer s H E hr) fun ds Q h => r_law_every h
  have G__law_by_book : FnOk P w K mg base CX0 1 f__law_by_book d__law_by_book ["_law_befores", "_law_many", "_law_book_here", "_law_order"] (sp3 ⟨K, C, P, w⟩ T_law_by_book) := def3 F__law_by_book sc__law_by_book (fun ds Q h => by obtain ⟨_, _, _, _, rfl, _⟩ := h; rfl) (by decide) (fun cdv A outer s H E hr => b__law_by_book M cdv A outer s H E hr) fun ds Q h => r_law_by_book h
  have G_dd : ∀ (j kk : Nat), kk ≤ j + 1 → FnOk P w K mg base CX0 kk f__law_deeds d__law_deeds ["_law_tape_here", "_law_deep", "_law_most"] (spT ⟨K, C, P, w⟩ (TdP j)) → FnOk P w K mg base CX0 (j + 1 + 1) f__law_deeds d__law_deeds ["_law_tape_here", "_law_deep", "_law_most"] (spT ⟨K, C, P, w⟩ (T_deeds j)) := fun j kk hk G__law_deeds =>
    defT F__law_deeds sc__law_deeds (fun tp ds Q h => by obtain ⟨_, _, rfl, _⟩ := h; rfl) (by decide) (fun cdv A outer s H E hr => b__law_deeds M U__law_pick G__law_pick (by omega) U__law_deeds G__law_deeds hk cdv A outer s H E hr) fun p tp ds Q h => r_deeds h
  have G_ddA : ∀ j : Nat, FnOk P w K mg base CX0 (j + 1 + 1) f__law_deeds d__law_deeds ["_law_tape_here", "_law_deep", "_law_most"] (spT ⟨K, C, P, w⟩ (T_deeds j)) := by
    intro j
    induction j with
    | zero => exact G_dd 0 0 (Nat.zero_le _) voidT
    | succ j ih => exact G_dd (j + 1) (j + 1 + 1) (Nat.le_refl _) ih
  have G__law_deeds : FnOk P w K mg base CX0 5 f__law_deeds d__law_deeds ["_law_tape_here", "_law_deep", "_law_most"] (spT ⟨K, C, P, w⟩ (T_deeds 3)) := G_ddA 3
  have G_mm : ∀ (j kk : Nat), kk ≤ j → FnOk P w K mg base CX0 kk f__law_many_deeds d__law_many_deeds ["_law_deeds_here"] (sp3 ⟨K, C, P, w⟩ (TmP j)) → FnOk P w K mg base CX0 (j + 1) f__law_many_deeds d__law_many_deeds ["_law_deeds_here"] (sp3 ⟨K, C, P, w⟩ (T_many j)) := fun j kk hk G__law_many_deeds =>
    def3 F__law_many_deeds sc__law_many_deeds (fun ds Q h => by obtain ⟨_, rfl, _⟩ := h; rfl) (by decide) (fun cdv A outer s H E hr => b__law_many_deeds M U__law_many_deeds G__law_many_deeds hk cdv A outer s H E hr) fun ds Q h => r_many h
  have G_mmA : ∀ j : Nat, FnOk P w K mg base CX0 (j + 1) f__law_many_deeds d__law_many_deeds ["_law_deeds_here"] (sp3 ⟨K, C, P, w⟩ (T_many j)) := by
    intro j
    induction j with
    | zero => exact G_mm 0 0 (Nat.zero_le _) void3
    | succ j ih => exact G_mm (j + 1) (j + 1) (Nat.le_refl _) ih
  have G__law_many_deeds : FnOk P w K mg base CX0 4 f__law_many_deeds d__law_many_deeds ["_law_deeds_here"] (sp3 ⟨K, C, P, w⟩ (T_many 3)) := G_mmA 3
  have G__law_book : FnOk P w K mg base CX0 6 f__law_book d__law_book ["_law_tape_here"] (spT ⟨K, C, P, w⟩ T_book) := defT F__law_book sc__law_book (fun tp ds Q h => by obtain ⟨rfl, _⟩ := h; rfl) (by decide) (fun cdv A outer s H E hr => b__law_book M U__law_pick G__law_pick (by decide) U__law_deeds G__law_deeds (by decide) U__law_many_deeds G__law_many_deeds (by decide) cdv A outer s H E hr) fun p tp ds Q h => r_book h
  have G__law_first_parted : FnOk P w K mg base CX0 3 f__law_first_parted d__law_first_parted ["_law_one", "_law_other", "_law_many"] (sp3 ⟨K, C, P, w⟩ T_first_parted) := def3 F__law_first_parted sc__law_first_parted (fun ds Q h => by obtain ⟨_, _, _, rfl, _⟩ := h; rfl) (by decide) (fun cdv A outer s H E hr => b__law_first_parted M U__law_by_book G__law_by_book (by decide) U__law_orders G__law_orders (by decide) U__law_every G__law_every (by decide) cdv A outer s H E hr) fun ds Q h => r_first_parted h
  have G_law : FnOk P w K mg base CX0 18 f_law d_law ["_law_script"] (sp3 ⟨K, C, P, w⟩ T_law) := def3 F_law sc_law (fun ds Q h => by obtain ⟨_, rfl, _⟩ := h; rfl) (by decide) (fun cdv A outer s H E hr => b_law M U__law_tape G__law_tape (by decide) U__law_book G__law_book (by decide) U__law_pick G__law_pick (by decide) U__law_many_deeds G__law_many_deeds (by decide) U__law_first_parted G__law_first_parted (by decide) U_books_part G_books_part (by decide) WC WI m_Web cdv A outer s H E hr) fun ds Q h => r_law h
  refine G_law.imp fun vs H Q E h => ?_
  obtain ⟨a, ns, rfl, hS, q⟩ := h
  refine ⟨H, [.lst (ns.map D3.int)], fun r => r = .im (.bl true), Same.refl H, Ims.cons ?_ Ims.nil, ⟨ns, rfl, evAll, rfl⟩, fun r F' H' v hr _ _ _ _ rep _ => ?_⟩
  · unfold Im
    exact ⟨a, _, rfl, hS, ims_of_ints ns⟩
  · subst hr
    have : v = .bl true := by
      unfold RepR Im at rep
      exact rep
    subst this
    exact q H'
end
set_option maxHeartbeats 1500000 in
theorem all_mk {l : PySem.W.OpenLaw} {w : World} {K : PySem.W.Frag} {h : Heap} {mg : Str → Option Value} {fa C Wb : Addr} (X : K.In h) (G : h.Ns mainGlobals mg) (hfa : mg "law" = some (.ref fa))
    {f_is_integer f_is_within f_check_number f_closed f_raw_web f_free_names f_every_web f_webs_up_to f_all_orders f_deeds_in f_deeds_of f_is_book f_check_book f_next_side f_side_of f_choices f_chance_by f_books_part f__law_tape f__law_pick f__law_free f__law_orders f__law_every f__law_can_stand f__law_put_in f__law_by_book f__law_deeds f__law_many_deeds f__law_book f__law_first_parted f_law f_keep f_init : Addr}
    {od_is_integer an_is_integer od_is_within an_is_within od_check_number an_check_number od_closed an_closed od_raw_web an_raw_web od_free_names an_free_names od_every_web an_every_web od_webs_up_to an_webs_up_to od_all_orders an_all_orders od_deeds_in an_deeds_in od_deeds_of an_deeds_of od_is_book an_is_book od_check_book an_check_book od_next_side an_next_side od_side_of an_side_of od_choices an_choices od_chance_by an_chance_by od_books_part an_books_part od__law_tape an__law_tape od__law_pick an__law_pick od__law_free an__law_free od__law_orders an__law_orders od__law_every an__law_every od__law_can_stand an__law_can_stand od__law_put_in an__law_put_in od__law_by_book an__law_by_book od__law_deeds an__law_deeds od__law_many_deeds an__law_many_deeds od__law_book an__law_book od__law_first_parted an__law_first_parted od_law an_law od_keep an_keep od_init an_init : Option Addr} {sl_is_integer sl_is_within sl_check_number sl_closed sl_raw_web sl_free_names sl_every_web sl_webs_up_to sl_all_orders sl_deeds_in sl_deeds_of sl_is_book sl_check_book sl_next_side sl_side_of sl_choices sl_chance_by sl_books_part sl__law_tape sl__law_pick sl__law_free sl__law_orders sl__law_every sl__law_can_stand sl__law_put_in sl__law_by_book sl__law_deeds sl__law_many_deeds sl__law_book sl__law_first_parted sl_law sl_keep sl_init : Array (Option Value)} {oc_is_integer kV_is_integer dc_is_integer pm_is_integer cd_is_integer ct_is_integer oc_is_within kV_is_within dc_is_within pm_is_within cd_is_within ct_is_within oc_check_number kV_check_number dc_check_number pm_check_number cd_check_number ct_check_number oc_closed kV_closed dc_closed pm_closed cd_closed ct_closed oc_raw_web kV_raw_web dc_raw_web pm_raw_web cd_raw_web ct_raw_web oc_free_names kV_free_names dc_free_names pm_free_names cd_free_names ct_free_names oc_every_web kV_every_web dc_every_web pm_every_web cd_every_web ct_every_web oc_webs_up_to kV_webs_up_to dc_webs_up_to pm_webs_up_to cd_webs_up_to ct_webs_up_to oc_all_orders kV_all_orders dc_all_orders pm_all_orders cd_all_orders ct_all_orders oc_deeds_in kV_deeds_in dc_deeds_in pm_deeds_in cd_deeds_in ct_deeds_in oc_deeds_of kV_deeds_of dc_deeds_of pm_deeds_of cd_deeds_of ct_deeds_of oc_is_book kV_is_book dc_is_book pm_is_book cd_is_book ct_is_book oc_check_book kV_check_book dc_check_book pm_check_book cd_check_book ct_check_book oc_next_side kV_next_side dc_next_side pm_next_side cd_next_side ct_next_side oc_side_of kV_side_of dc_side_of pm_side_of cd_side_of ct_side_of oc_choices kV_choices dc_choices pm_choices cd_choices ct_choices oc_chance_by kV_chance_by dc_chance_by pm_chance_by cd_chance_by ct_chance_by oc_books_part kV_books_part dc_books_part pm_books_part cd_books_part ct_books_part oc__law_tape kV__law_tape dc__law_tape pm__law_tape cd__law_tape ct__law_tape oc__law_pick kV__law_pick dc__law_pick pm__law_pick cd__law_pick ct__law_pick oc__law_free kV__law_free dc__law_free pm__law_free cd__law_free ct__law_free oc__law_orders kV__law_orders dc__law_orders pm__law_orders cd__law_orders ct__law_orders oc__law_every kV__law_every dc__law_every pm__law_every cd__law_every ct__law_every oc__law_can_stand kV__law_can_stand dc__law_can_stand pm__law_can_stand cd__law_can_stand ct__law_can_stand oc__law_put_in kV__law_put_in dc__law_put_in pm__law_put_in cd__law_put_in ct__law_put_in oc__law_by_book kV__law_by_book dc__law_by_book pm__law_by_book cd__law_by_book ct__law_by_book oc__law_deeds kV__law_deeds dc__law_deeds pm__law_deeds cd__law_deeds ct__law_deeds oc__law_many_deeds kV__law_many_deeds dc__law_many_deeds pm__law_many_deeds cd__law_many_deeds ct__law_many_deeds oc__law_book kV__law_book dc__law_book pm__law_book cd__law_book ct__law_book oc__law_first_parted kV__law_first_parted dc__law_first_parted pm__law_first_parted cd__law_first_parted ct__law_first_parted oc_law kV_law dc_law pm_law cd_law ct_law oc_keep kV_keep dc_keep pm_keep cd_keep ct_keep oc_init kV_init dc_init pm_init cd_init ct_init : Value} {t1 t2 t3 t4 : Tok}
    (aC : PySem.W.nsIn K mainGlobals "RawWeb" = some (some (.ref C)))
    (aW : PySem.W.nsIn K mainGlobals "Web" = some (some (.ref Wb)))
    (a_is_integer : PySem.W.nsIn K mainGlobals "is_integer" = some (some (.ref f_is_integer)))
    (l_is_integer : K.lookup f_is_integer = some ⟨oc_is_integer, od_is_integer, .func (PySem.W.fnOf "is_integer" "is_integer" (defArgs (topS 6)) (defBody (topS 6)) (defScope (topS 6)) .none kV_is_integer dc_is_integer pm_is_integer an_is_integer cd_is_integer ct_is_integer), sl_is_integer⟩)
    (c_is_integer : PySem.W.codeIn K cd_is_integer "is_integer" = true)
    (k_is_integer : PySem.W.keepIn K (.ref f_is_integer) = true)
    (a_is_within : PySem.W.nsIn K mainGlobals "is_within" = some (some (.ref f_is_within)))
    (l_is_within : K.lookup f_is_within = some ⟨oc_is_within, od_is_within, .func (PySem.W.fnOf "is_within" "is_within" (defArgs (topS 7)) (defBody (topS 7)) (defScope (topS 7)) .none kV_is_within dc_is_within pm_is_within an_is_within cd_is_within ct_is_within), sl_is_within⟩)
    (c_is_within : PySem.W.codeIn K cd_is_within "is_within" = true)
    (k_is_within : PySem.W.keepIn K (.ref f_is_within) = true)
    (a_check_number : PySem.W.nsIn K mainGlobals "check_number" = some (some (.ref f_check_number)))
    (l_check_number : K.lookup f_check_number = some ⟨oc_check_number, od_check_number, .func (PySem.W.fnOf "check_number" "check_number" (defArgs (topS 11)) (defBody (topS 11)) (defScope (topS 11)) .none kV_check_number dc_check_number pm_check_number an_check_number cd_check_number ct_check_number), sl_check_number⟩)
    (c_check_number : PySem.W.codeIn K cd_check_number "check_number" = true)
    (k_check_number : PySem.W.keepIn K (.ref f_check_number) = true)
    (a_closed : PySem.W.nsIn K mainGlobals "closed" = some (some (.ref f_closed)))
    (l_closed : K.lookup f_closed = some ⟨oc_closed, od_closed, .func (PySem.W.fnOf "closed" "closed" (defArgs (topS 14)) (defBody (topS 14)) (defScope (topS 14)) .none kV_closed dc_closed pm_closed an_closed cd_closed ct_closed), sl_closed⟩)
    (c_closed : PySem.W.codeIn K cd_closed "closed" = true)
    (k_closed : PySem.W.keepIn K (.ref f_closed) = true)
    (a_raw_web : PySem.W.nsIn K mainGlobals "raw_web" = some (some (.ref f_raw_web)))
    (l_raw_web : K.lookup f_raw_web = some ⟨oc_raw_web, od_raw_web, .func (PySem.W.fnOf "raw_web" "raw_web" (defArgs (topS 18)) (defBody (topS 18)) (defScope (topS 18)) .none kV_raw_web dc_raw_web pm_raw_web an_raw_web cd_raw_web ct_raw_web), sl_raw_web⟩)
    (c_raw_web : PySem.W.codeIn K cd_raw_web "raw_web" = true)
    (k_raw_web : PySem.W.keepIn K (.ref f_raw_web) = true)
    (a_free_names : PySem.W.nsIn K mainGlobals "free_names" = some (some (.ref f_free_names)))
    (l_free_names : K.lookup f_free_names = some ⟨oc_free_names, od_free_names, .func (PySem.W.fnOf "free_names" "free_names" (defArgs (topS 19)) (defBody (topS 19)) (defScope (topS 19)) .none kV_free_names dc_free_names pm_free_names an_free_names cd_free_names ct_free_names), sl_free_names⟩)
    (c_free_names : PySem.W.codeIn K cd_free_names "free_names" = true)
    (k_free_names : PySem.W.keepIn K (.ref f_free_names) = true)
    (a_every_web : PySem.W.nsIn K mainGlobals "every_web" = some (some (.ref f_every_web)))
    (l_every_web : K.lookup f_every_web = some ⟨oc_every_web, od_every_web, .func (PySem.W.fnOf "every_web" "every_web" (defArgs (topS 21)) (defBody (topS 21)) (defScope (topS 21)) .none kV_every_web dc_every_web pm_every_web an_every_web cd_every_web ct_every_web), sl_every_web⟩)
    (c_every_web : PySem.W.codeIn K cd_every_web "every_web" = true)
    (k_every_web : PySem.W.keepIn K (.ref f_every_web) = true)
    (a_webs_up_to : PySem.W.nsIn K mainGlobals "webs_up_to" = some (some (.ref f_webs_up_to)))
    (l_webs_up_to : K.lookup f_webs_up_to = some ⟨oc_webs_up_to, od_webs_up_to, .func (PySem.W.fnOf "webs_up_to" "webs_up_to" (defArgs (topS 22)) (defBody (topS 22)) (defScope (topS 22)) .none kV_webs_up_to dc_webs_up_to pm_webs_up_to an_webs_up_to cd_webs_up_to ct_webs_up_to), sl_webs_up_to⟩)
    (c_webs_up_to : PySem.W.codeIn K cd_webs_up_to "webs_up_to" = true)
    (k_webs_up_to : PySem.W.keepIn K (.ref f_webs_up_to) = true)
    (a_all_orders : PySem.W.nsIn K mainGlobals "all_orders" = some (some (.ref f_all_orders)))
    (l_all_orders : K.lookup f_all_orders = some ⟨oc_all_orders, od_all_orders, .func (PySem.W.fnOf "all_orders" "all_orders" (defArgs (topS 24)) (defBody (topS 24)) (defScope (topS 24)) .none kV_all_orders dc_all_orders pm_all_orders an_all_orders cd_all_orders ct_all_orders), sl_all_orders⟩)
    (c_all_orders : PySem.W.codeIn K cd_all_orders "all_orders" = true)
    (k_all_orders : PySem.W.keepIn K (.ref f_all_orders) = true)
    (a_deeds_in : PySem.W.nsIn K mainGlobals "deeds_in" = some (some (.ref f_deeds_in)))
    (l_deeds_in : K.lookup f_deeds_in = some ⟨oc_deeds_in, od_deeds_in, .func (PySem.W.fnOf "deeds_in" "deeds_in" (defArgs (topS 30)) (defBody (topS 30)) (defScope (topS 30)) .none kV_deeds_in dc_deeds_in pm_deeds_in an_deeds_in cd_deeds_in ct_deeds_in), sl_deeds_in⟩)
    (c_deeds_in : PySem.W.codeIn K cd_deeds_in "deeds_in" = true)
    (k_deeds_in : PySem.W.keepIn K (.ref f_deeds_in) = true)
    (a_deeds_of : PySem.W.nsIn K mainGlobals "deeds_of" = some (some (.ref f_deeds_of)))
    (l_deeds_of : K.lookup f_deeds_of = some ⟨oc_deeds_of, od_deeds_of, .func (PySem.W.fnOf "deeds_of" "deeds_of" (defArgs (topS 31)) (defBody (topS 31)) (defScope (topS 31)) .none kV_deeds_of dc_deeds_of pm_deeds_of an_deeds_of cd_deeds_of ct_deeds_of), sl_deeds_of⟩)
    (c_deeds_of : PySem.W.codeIn K cd_deeds_of "deeds_of" = true)
    (k_deeds_of : PySem.W.keepIn K (.ref f_deeds_of) = true)
    (a_is_book : PySem.W.nsIn K mainGlobals "is_book" = some (some (.ref f_is_book)))
    (l_is_book : K.lookup f_is_book = some ⟨oc_is_book, od_is_book, .func (PySem.W.fnOf "is_book" "is_book" (defArgs (topS 32)) (defBody (topS 32)) (defScope (topS 32)) .none kV_is_book dc_is_book pm_is_book an_is_book cd_is_book ct_is_book), sl_is_book⟩)
    (c_is_book : PySem.W.codeIn K cd_is_book "is_book" = true)
    (k_is_book : PySem.W.keepIn K (.ref f_is_book) = true)
    (a_check_book : PySem.W.nsIn K mainGlobals "check_book" = some (some (.ref f_check_book)))
    (l_check_book : K.lookup f_check_book = some ⟨oc_check_book, od_check_book, .func (PySem.W.fnOf "check_book" "check_book" (defArgs (topS 33)) (defBody (topS 33)) (defScope (topS 33)) .none kV_check_book dc_check_book pm_check_book an_check_book cd_check_book ct_check_book), sl_check_book⟩)
    (c_check_book : PySem.W.codeIn K cd_check_book "check_book" = true)
    (k_check_book : PySem.W.keepIn K (.ref f_check_book) = true)
    (a_next_side : PySem.W.nsIn K mainGlobals "next_side" = some (some (.ref f_next_side)))
    (l_next_side : K.lookup f_next_side = some ⟨oc_next_side, od_next_side, .func (PySem.W.fnOf "next_side" "next_side" (defArgs (topS 34)) (defBody (topS 34)) (defScope (topS 34)) .none kV_next_side dc_next_side pm_next_side an_next_side cd_next_side ct_next_side), sl_next_side⟩)
    (c_next_side : PySem.W.codeIn K cd_next_side "next_side" = true)
    (k_next_side : PySem.W.keepIn K (.ref f_next_side) = true)
    (a_side_of : PySem.W.nsIn K mainGlobals "side_of" = some (some (.ref f_side_of)))
    (l_side_of : K.lookup f_side_of = some ⟨oc_side_of, od_side_of, .func (PySem.W.fnOf "side_of" "side_of" (defArgs (topS 35)) (defBody (topS 35)) (defScope (topS 35)) .none kV_side_of dc_side_of pm_side_of an_side_of cd_side_of ct_side_of), sl_side_of⟩)
    (c_side_of : PySem.W.codeIn K cd_side_of "side_of" = true)
    (k_side_of : PySem.W.keepIn K (.ref f_side_of) = true)
    (a_choices : PySem.W.nsIn K mainGlobals "choices" = some (some (.ref f_choices)))
    (l_choices : K.lookup f_choices = some ⟨oc_choices, od_choices, .func (PySem.W.fnOf "choices" "choices" (defArgs (topS 36)) (defBody (topS 36)) (defScope (topS 36)) .none kV_choices dc_choices pm_choices an_choices cd_choices ct_choices), sl_choices⟩)
    (c_choices : PySem.W.codeIn K cd_choices "choices" = true)
    (k_choices : PySem.W.keepIn K (.ref f_choices) = true)
    (a_chance_by : PySem.W.nsIn K mainGlobals "chance_by" = some (some (.ref f_chance_by)))
    (l_chance_by : K.lookup f_chance_by = some ⟨oc_chance_by, od_chance_by, .func (PySem.W.fnOf "chance_by" "chance_by" (defArgs (topS 37)) (defBody (topS 37)) (defScope (topS 37)) .none kV_chance_by dc_chance_by pm_chance_by an_chance_by cd_chance_by ct_chance_by), sl_chance_by⟩)
    (c_chance_by : PySem.W.codeIn K cd_chance_by "chance_by" = true)
    (k_chance_by : PySem.W.keepIn K (.ref f_chance_by) = true)
    (a_books_part : PySem.W.nsIn K mainGlobals "books_part" = some (some (.ref f_books_part)))
    (l_books_part : K.lookup f_books_part = some ⟨oc_books_part, od_books_part, .func (PySem.W.fnOf "books_part" "books_part" (defArgs (topS 38)) (defBody (topS 38)) (defScope (topS 38)) .none kV_books_part dc_books_part pm_books_part an_books_part cd_books_part ct_books_part), sl_books_part⟩)
    (c_books_part : PySem.W.codeIn K cd_books_part "books_part" = true)
    (k_books_part : PySem.W.keepIn K (.ref f_books_part) = true)
    (a__law_tape : PySem.W.nsIn K mainGlobals "_law_tape" = some (some (.ref f__law_tape)))
    (l__law_tape : K.lookup f__law_tape = some ⟨oc__law_tape, od__law_tape, .func (PySem.W.fnOf "_law_tape" "_law_tape" (defArgs (topS 40)) (defBody (topS 40)) (defScope (topS 40)) .none kV__law_tape dc__law_tape pm__law_tape an__law_tape cd__law_tape ct__law_tape), sl__law_tape⟩)
    (c__law_tape : PySem.W.codeIn K cd__law_tape "_law_tape" = true)
    (k__law_tape : PySem.W.keepIn K (.ref f__law_tape) = true)
    (a__law_pick : PySem.W.nsIn K mainGlobals "_law_pick" = some (some (.ref f__law_pick)))
    (l__law_pick : K.lookup f__law_pick = some ⟨oc__law_pick, od__law_pick, .func (PySem.W.fnOf "_law_pick" "_law_pick" (defArgs (topS 41)) (defBody (topS 41)) (defScope (topS 41)) .none kV__law_pick dc__law_pick pm__law_pick an__law_pick cd__law_pick ct__law_pick), sl__law_pick⟩)
    (c__law_pick : PySem.W.codeIn K cd__law_pick "_law_pick" = true)
    (k__law_pick : PySem.W.keepIn K (.ref f__law_pick) = true)
    (a__law_free : PySem.W.nsIn K mainGlobals "_law_free" = some (some (.ref f__law_free)))
    (l__law_free : K.lookup f__law_free = some ⟨oc__law_free, od__law_free, .func (PySem.W.fnOf "_law_free" "_law_free" (defArgs (topS 42)) (defBody (topS 42)) (defScope (topS 42)) .none kV__law_free dc__law_free pm__law_free an__law_free cd__law_free ct__law_free), sl__law_free⟩)
    (c__law_free : PySem.W.codeIn K cd__law_free "_law_free" = true)
    (k__law_free : PySem.W.keepIn K (.ref f__law_free) = true)
    (a__law_orders : PySem.W.nsIn K mainGlobals "_law_orders" = some (some (.ref f__law_orders)))
    (l__law_orders : K.lookup f__law_orders = some ⟨oc__law_orders, od__law_orders, .func (PySem.W.fnOf "_law_orders" "_law_orders" (defArgs (topS 43)) (defBody (topS 43)) (defScope (topS 43)) .none kV__law_orders dc__law_orders pm__law_orders an__law_orders cd__law_orders ct__law_orders), sl__law_orders⟩)
    (c__law_orders : PySem.W.codeIn K cd__law_orders "_law_orders" = true)
    (k__law_orders : PySem.W.keepIn K (.ref f__law_orders) = true)
    (a__law_every : PySem.W.nsIn K mainGlobals "_law_every" = some (some (.ref f__law_every)))
    (l__law_every : K.lookup f__law_every = some ⟨oc__law_every, od__law_every, .func (PySem.W.fnOf "_law_every" "_law_every" (defArgs (topS 44)) (defBody (topS 44)) (defScope (topS 44)) .none kV__law_every dc__law_every pm__law_every an__law_every cd__law_every ct__law_every), sl__law_every⟩)
    (c__law_every : PySem.W.codeIn K cd__law_every "_law_every" = true)
    (k__law_every : PySem.W.keepIn K (.ref f__law_every) = true)
    (a__law_can_stand : PySem.W.nsIn K mainGlobals "_law_can_stand" = some (some (.ref f__law_can_stand)))
    (l__law_can_stand : K.lookup f__law_can_stand = some ⟨oc__law_can_stand, od__law_can_stand, .func (PySem.W.fnOf "_law_can_stand" "_law_can_stand" (defArgs (topS 45)) (defBody (topS 45)) (defScope (topS 45)) .none kV__law_can_stand dc__law_can_stand pm__law_can_stand an__law_can_stand cd__law_can_stand ct__law_can_stand), sl__law_can_stand⟩)
    (c__law_can_stand : PySem.W.codeIn K cd__law_can_stand "_law_can_stand" = true)
    (k__law_can_stand : PySem.W.keepIn K (.ref f__law_can_stand) = true)
    (a__law_put_in : PySem.W.nsIn K mainGlobals "_law_put_in" = some (some (.ref f__law_put_in)))
    (l__law_put_in : K.lookup f__law_put_in = some ⟨oc__law_put_in, od__law_put_in, .func (PySem.W.fnOf "_law_put_in" "_law_put_in" (defArgs (topS 46)) (defBody (topS 46)) (defScope (topS 46)) .none kV__law_put_in dc__law_put_in pm__law_put_in an__law_put_in cd__law_put_in ct__law_put_in), sl__law_put_in⟩)
    (c__law_put_in : PySem.W.codeIn K cd__law_put_in "_law_put_in" = true)
    (k__law_put_in : PySem.W.keepIn K (.ref f__law_put_in) = true)
    (a__law_by_book : PySem.W.nsIn K mainGlobals "_law_by_book" = some (some (.ref f__law_by_book)))
    (l__law_by_book : K.lookup f__law_by_book = some ⟨oc__law_by_book, od__law_by_book, .func (PySem.W.fnOf "_law_by_book" "_law_by_book" (defArgs (topS 47)) (defBody (topS 47)) (defScope (topS 47)) .none kV__law_by_book dc__law_by_book pm__law_by_book an__law_by_book cd__law_by_book ct__law_by_book), sl__law_by_book⟩)
    (c__law_by_book : PySem.W.codeIn K cd__law_by_book "_law_by_book" = true)
    (k__law_by_book : PySem.W.keepIn K (.ref f__law_by_book) = true)
    (a__law_deeds : PySem.W.nsIn K mainGlobals "_law_deeds" = some (some (.ref f__law_deeds)))
    (l__law_deeds : K.lookup f__law_deeds = some ⟨oc__law_deeds, od__law_deeds, .func (PySem.W.fnOf "_law_deeds" "_law_deeds" (defArgs (topS 48)) (defBody (topS 48)) (defScope (topS 48)) .none kV__law_deeds dc__law_deeds pm__law_deeds an__law_deeds cd__law_deeds ct__law_deeds), sl__law_deeds⟩)
    (c__law_deeds : PySem.W.codeIn K cd__law_deeds "_law_deeds" = true)
    (k__law_deeds : PySem.W.keepIn K (.ref f__law_deeds) = true)
    (a__law_many_deeds : PySem.W.nsIn K mainGlobals "_law_many_deeds" = some (some (.ref f__law_many_deeds)))
    (l__law_many_deeds : K.lookup f__law_many_deeds = some ⟨oc__law_many_deeds, od__law_many_deeds, .func (PySem.W.fnOf "_law_many_deeds" "_law_many_deeds" (defArgs (topS 49)) (defBody (topS 49)) (defScope (topS 49)) .none kV__law_many_deeds dc__law_many_deeds pm__law_many_deeds an__law_many_deeds cd__law_many_deeds ct__law_many_deeds), sl__law_many_deeds⟩)
    (c__law_many_deeds : PySem.W.codeIn K cd__law_many_deeds "_law_many_deeds" = true)
    (k__law_many_deeds : PySem.W.keepIn K (.ref f__law_many_deeds) = true)
    (a__law_book : PySem.W.nsIn K mainGlobals "_law_book" = some (some (.ref f__law_book)))
    (l__law_book : K.lookup f__law_book = some ⟨oc__law_book, od__law_book, .func (PySem.W.fnOf "_law_book" "_law_book" (defArgs (topS 50)) (defBody (topS 50)) (defScope (topS 50)) .none kV__law_book dc__law_book pm__law_book an__law_book cd__law_book ct__law_book), sl__law_book⟩)
    (c__law_book : PySem.W.codeIn K cd__law_book "_law_book" = true)
    (k__law_book : PySem.W.keepIn K (.ref f__law_book) = true)
    (a__law_first_parted : PySem.W.nsIn K mainGlobals "_law_first_parted" = some (some (.ref f__law_first_parted)))
    (l__law_first_parted : K.lookup f__law_first_parted = some ⟨oc__law_first_parted, od__law_first_parted, .func (PySem.W.fnOf "_law_first_parted" "_law_first_parted" (defArgs (topS 51)) (defBody (topS 51)) (defScope (topS 51)) .none kV__law_first_parted dc__law_first_parted pm__law_first_parted an__law_first_parted cd__law_first_parted ct__law_first_parted), sl__law_first_parted⟩)
    (c__law_first_parted : PySem.W.codeIn K cd__law_first_parted "_law_first_parted" = true)
    (k__law_first_parted : PySem.W.keepIn K (.ref f__law_first_parted) = true)
    (a_law : PySem.W.nsIn K mainGlobals "law" = some (some (.ref f_law)))
    (l_law : K.lookup f_law = some ⟨oc_law, od_law, .func (PySem.W.fnOf "law" "law" (defArgs (topS 52)) (defBody (topS 52)) (defScope (topS 52)) .none kV_law dc_law pm_law an_law cd_law ct_law), sl_law⟩)
    (c_law : PySem.W.codeIn K cd_law "law" = true)
    (k_law : PySem.W.keepIn K (.ref f_law) = true)
    (a_keep : PySem.W.findIn K (.ref C) "keep" = some (some (.ref f_keep)))
    (i_keep : PySem.W.isFn K (.ref f_keep) = true)
    (l_keep : K.lookup f_keep = some ⟨oc_keep, od_keep, .func (PySem.W.fnOf "keep" "Web.keep" (defArgs (inClass (topS 16) 1)) (defBody (inClass (topS 16) 1)) (defScope (inClass (topS 16) 1)) .none kV_keep dc_keep pm_keep an_keep cd_keep ct_keep), sl_keep⟩)
    (c_keep : PySem.W.codeIn K cd_keep "Web.keep" = true)
    (k_keep : PySem.W.keepIn K (.ref f_keep) = true)
    (a_init : PySem.W.findIn K (.ref C) "__init__" = some (some (.ref f_init)))
    (i_init : PySem.W.isFn K (.ref f_init) = true)
    (l_init : K.lookup f_init = some ⟨oc_init, od_init, .func (PySem.W.fnOf "__init__" "RawWeb.__init__" (defArgs (inClass (topS 17) 0)) (defBody (inClass (topS 17) 0)) (defScope (inClass (topS 17) 0)) .none kV_init dc_init pm_init an_init cd_init ct_init), sl_init⟩)
    (c_init : PySem.W.codeIn K cd_init "RawWeb.__init__" = true)
    (k_init : PySem.W.keepIn K (.ref f_init) = true)
    (pg : PySem.W.plainGet K C Str.empty = true)
    (hd : PySem.W.hasDictIn K C = true)
    (po : PySem.W.plainOver K C = true)
    (sa : PySem.W.findIn K (.ref C) "__setattr__" = some (some (.builtin "object.__setattr__")))
    (mk : PySem.W.makesIn K C = true)
    (kc : PySem.W.keepIn K (.ref C) = true)
    (nM : PySem.W.findIn K (.ref C) "many" = some none)
    (nB : PySem.W.findIn K (.ref C) "befores" = some none)
    (nA : PySem.W.findIn K (.ref C) "ahead" = some none)
    (nL : PySem.W.findIn K (.ref C) "later" = some none)
    (wA : PySem.W.findIn K (.ref C) "__class__" = some (some (.builtin "object.__class__")))
    (wS : PySem.W.specialIn K (.builtin "object.__class__") "__get__" = some (some (.builtin "getset_descriptor.__get__")))
    (wT : PySem.W.takesIn K (.builtin "object.__class__") = some true)
    (wM : PySem.W.mroIn K C (.type "object") = some true)
    (wK : PySem.W.kitOne K (.ref C) (.ref Wb) = some true)
    (z_range : PySem.W.nsIn K mainGlobals "range" = some none)
    (z_len : PySem.W.nsIn K mainGlobals "len" = some none)
    (z_any : PySem.W.nsIn K mainGlobals "any" = some none)
    (z_all : PySem.W.nsIn K mainGlobals "all" = some none)
    (z_tuple : PySem.W.nsIn K mainGlobals "tuple" = some none)
    (z_sorted : PySem.W.nsIn K mainGlobals "sorted" = some none)
    (z_list : PySem.W.nsIn K mainGlobals "list" = some none)
    (z_isinstance : PySem.W.nsIn K mainGlobals "isinstance" = some none)
    (z_int : PySem.W.nsIn K mainGlobals "int" = some none)
    (z_bool : PySem.W.nsIn K mainGlobals "bool" = some none)
    (z_str : PySem.W.nsIn K mainGlobals "str" = some none)
    (z_sum : PySem.W.nsIn K mainGlobals "sum" = some none)
    (z_set : PySem.W.nsIn K mainGlobals "set" = some none)
    (n_MOST_DEEDS : PySem.W.nsIn K mainGlobals "MOST_DEEDS" = some (some (.int 40 t1)))
    (n_MOST_DEEP : PySem.W.nsIn K mainGlobals "MOST_DEEP" = some (some (.int 6 t2)))
    (n_MOST_NAME : PySem.W.nsIn K mainGlobals "MOST_NAME" = some (some (.int 7 t3)))
    (n_MOST_PARTED : PySem.W.nsIn K mainGlobals "MOST_PARTED" = some (some (.int 4 t4)))
    : ∃ fd : FuncData, (∀ (s : Shared) (v : Value), BindsTo s fd ⟨[v], []⟩ [("_law_script", v)]) ∧ ∀ base : Heap, K.In base → base.Ns mainGlobals mg → FnOk l.prog w K mg base CX0 18 fa fd ["_law_script"] (spLaw K) := by
  have e := hfa.symm.trans (PySem.W.mg_of X G a_law)
  cases e
  have F_is_integer := fun_mk (st := (topS 6)) l_is_integer c_is_integer k_is_integer
  have b_is_integer := F_is_integer.binds (ps := ["thing"]) fun _ _ _ _ _ _ us hl => match us, hl with | [_], _ => rfl
  have F_is_within := fun_mk (st := (topS 7)) l_is_within c_is_within k_is_within
  have b_is_within := F_is_within.binds (ps := ["thing", "least", "most"]) fun _ _ _ _ _ _ us hl => match us, hl with | [_, _, _], _ => rfl
  have F_check_number := fun_mk (st := (topS 11)) l_check_number c_check_number k_check_number
  have b_check_number := F_check_number.binds (ps := ["thing", "least", "most"]) fun _ _ _ _ _ _ us hl => match us, hl with | [_, _, _], _ => rfl
  have F_closed := fun_mk (st := (topS 14)) l_closed c_closed k_closed
  have b_closed := F_closed.binds (ps := ["many", "pairs"]) fun _ _ _ _ _ _ us hl => match us, hl with | [_, _], _ => rfl
  have F_raw_web := fun_mk (st := (topS 18)) l_raw_web c_raw_web k_raw_web
  have b_raw_web := F_raw_web.binds (ps := ["many", "every"]) fun _ _ _ _ _ _ us hl => match us, hl with | [_, _], _ => rfl
  have F_free_names := fun_mk (st := (topS 19)) l_free_names c_free_names k_free_names
  have b_free_names := F_free_names.binds (ps := ["web", "lot"]) fun _ _ _ _ _ _ us hl => match us, hl with | [_, _], _ => rfl
  have F_every_web := fun_mk (st := (topS 21)) l_every_web c_every_web k_every_web
  have b_every_web := F_every_web.binds (ps := ["many"]) fun _ _ _ _ _ _ us hl => match us, hl with | [_], _ => rfl
  have F_webs_up_to := fun_mk (st := (topS 22)) l_webs_up_to c_webs_up_to k_webs_up_to
  have b_webs_up_to := F_webs_up_to.binds (ps := ["many"]) fun _ _ _ _ _ _ us hl => match us, hl with | [_], _ => rfl
  have F_all_orders := fun_mk (st := (topS 24)) l_all_orders c_all_orders k_all_orders
  have b_all_orders := F_all_orders.binds (ps := ["web"]) fun _ _ _ _ _ _ us hl => match us, hl with | [_], _ => rfl
  have F_deeds_in := fun_mk (st := (topS 30)) l_deeds_in c_deeds_in k_deeds_in
  have b_deeds_in := F_deeds_in.binds (ps := ["thing", "deep"]) fun _ _ _ _ _ _ us hl => match us, hl with | [_, _], _ => rfl
  have F_deeds_of := fun_mk (st := (topS 31)) l_deeds_of c_deeds_of k_deeds_of
  have b_deeds_of := F_deeds_of.binds (ps := ["thing", "deep"]) fun _ _ _ _ _ _ us hl => match us, hl with | [_, _], _ => rfl
  have F_is_book := fun_mk (st := (topS 32)) l_is_book c_is_book k_is_book
  have b_is_book := F_is_book.binds (ps := ["thing"]) fun _ _ _ _ _ _ us hl => match us, hl with | [_], _ => rfl
  have F_check_book := fun_mk (st := (topS 33)) l_check_book c_check_book k_check_book
  have b_check_book := F_check_book.binds (ps := ["thing"]) fun _ _ _ _ _ _ us hl => match us, hl with | [_], _ => rfl
  have F_next_side := fun_mk (st := (topS 34)) l_next_side c_next_side k_next_side
  have b_next_side := F_next_side.binds (ps := ["book", "todo", "left"]) fun _ _ _ _ _ _ us hl => match us, hl with | [_, _, _], _ => rfl
  have F_side_of := fun_mk (st := (topS 35)) l_side_of c_side_of k_side_of
  have b_side_of := F_side_of.binds (ps := ["book", "todo", "left", "many"]) fun _ _ _ _ _ _ us hl => match us, hl with | [_, _, _, _], _ => rfl
  have F_choices := fun_mk (st := (topS 36)) l_choices c_choices k_choices
  have b_choices := F_choices.binds (ps := ["web", "side", "left"]) fun _ _ _ _ _ _ us hl => match us, hl with | [_, _, _], _ => rfl
  have F_chance_by := fun_mk (st := (topS 37)) l_chance_by c_chance_by k_chance_by
  have b_chance_by := F_chance_by.binds (ps := ["web", "book", "order"]) fun _ _ _ _ _ _ us hl => match us, hl with | [_, _, _], _ => rfl
  have F_books_part := fun_mk (st := (topS 38)) l_books_part c_books_part k_books_part
  have b_books_part := F_books_part.binds (ps := ["one", "other", "many"]) fun _ _ _ _ _ _ us hl => match us, hl with | [_, _, _], _ => rfl
  have F__law_tape := fun_mk (st := (topS 40)) l__law_tape c__law_tape k__law_tape
  have b__law_tape := F__law_tape.binds (ps := ["_law_script"]) fun _ _ _ _ _ _ us hl => match us, hl with | [_], _ => rfl
  have F__law_pick := fun_mk (st := (topS 41)) l__law_pick c__law_pick k__law_pick
  have b__law_pick := F__law_pick.binds (ps := ["_law_tape_here", "_law_many"]) fun _ _ _ _ _ _ us hl => match us, hl with | [_, _], _ => rfl
  have F__law_free := fun_mk (st := (topS 42)) l__law_free c__law_free k__law_free
  have b__law_free := F__law_free.binds (ps := ["_law_befores", "_law_many", "_law_row"]) fun _ _ _ _ _ _ us hl => match us, hl with | [_, _, _], _ => rfl
  have F__law_orders := fun_mk (st := (topS 43)) l__law_orders c__law_orders k__law_orders
  have b__law_orders := F__law_orders.binds (ps := ["_law_befores", "_law_many"]) fun _ _ _ _ _ _ us hl => match us, hl with | [_, _], _ => rfl
  have F__law_every := fun_mk (st := (topS 44)) l__law_every c__law_every k__law_every
  have b__law_every := F__law_every.binds (ps := ["_law_many"]) fun _ _ _ _ _ _ us hl => match us, hl with | [_], _ => rfl
  have F__law_can_stand := fun_mk (st := (topS 45)) l__law_can_stand c__law_can_stand k__law_can_stand
  have b__law_can_stand := F__law_can_stand.binds (ps := ["_law_befores", "_law_name", "_law_sides"]) fun _ _ _ _ _ _ us hl => match us, hl with | [_, _, _], _ => rfl
  have F__law_put_in := fun_mk (st := (topS 46)) l__law_put_in c__law_put_in k__law_put_in
  have b__law_put_in := F__law_put_in.binds (ps := ["_law_befores", "_law_name", "_law_sides"]) fun _ _ _ _ _ _ us hl => match us, hl with | [_, _, _], _ => rfl
  have F__law_by_book := fun_mk (st := (topS 47)) l__law_by_book c__law_by_book k__law_by_book
  have b__law_by_book := F__law_by_book.binds (ps := ["_law_befores", "_law_many", "_law_book_here", "_law_order"]) fun _ _ _ _ _ _ us hl => match us, hl with | [_, _, _, _], _ => rfl
  have F__law_deeds := fun_mk (st := (topS 48)) l__law_deeds c__law_deeds k__law_deeds
  have b__law_deeds := F__law_deeds.binds (ps := ["_law_tape_here", "_law_deep", "_law_most"]) fun _ _ _ _ _ _ us hl => match us, hl with | [_, _, _], _ => rfl
  have F__law_many_deeds := fun_mk (st := (topS 49)) l__law_many_deeds c__law_many_deeds k__law_many_deeds
  have b__law_many_deeds := F__law_many_deeds.binds (ps := ["_law_deeds_here"]) fun _ _ _ _ _ _ us hl => match us, hl with | [_], _ => rfl
  have F__law_book := fun_mk (st := (topS 50)) l__law_book c__law_book k__law_book
  have b__law_book := F__law_book.binds (ps := ["_law_tape_here"]) fun _ _ _ _ _ _ us hl => match us, hl with | [_], _ => rfl
  have F__law_first_parted := fun_mk (st := (topS 51)) l__law_first_parted c__law_first_parted k__law_first_parted
  have b__law_first_parted := F__law_first_parted.binds (ps := ["_law_one", "_law_other", "_law_many"]) fun _ _ _ _ _ _ us hl => match us, hl with | [_, _, _], _ => rfl
  have F_law := fun_mk (st := (topS 52)) l_law c_law k_law
  have b_law := F_law.binds (ps := ["_law_script"]) fun _ _ _ _ _ _ us hl => match us, hl with | [_], _ => rfl
  have F_keep := fun_mk (st := (inClass (topS 16) 1)) l_keep c_keep k_keep
  have b_keep := F_keep.binds (ps := ["self", "many", "every"]) fun _ _ _ _ _ _ us hl => match us, hl with | [_, _, _], _ => rfl
  have F_init := fun_mk (st := (inClass (topS 17) 0)) l_init c_init k_init
  have b_init := F_init.binds (ps := ["self", "many", "every"]) fun _ _ _ _ _ _ us hl => match us, hl with | [_, _, _], _ => rfl
  have M : Mods mg := ⟨PySem.W.mg_none_of X G z_range, PySem.W.mg_none_of X G z_len, PySem.W.mg_none_of X G z_any, PySem.W.mg_none_of X G z_all, PySem.W.mg_none_of X G z_tuple, PySem.W.mg_none_of X G z_sorted, PySem.W.mg_none_of X G z_list, PySem.W.mg_none_of X G z_isinstance, PySem.W.mg_none_of X G z_int, PySem.W.mg_none_of X G z_bool, PySem.W.mg_none_of X G z_str, PySem.W.mg_none_of X G z_sum, PySem.W.mg_none_of X G z_set, ⟨t1, PySem.W.mg_of X G n_MOST_DEEDS⟩, ⟨t2, PySem.W.mg_of X G n_MOST_DEEP⟩, ⟨t3, PySem.W.mg_of X G n_MOST_NAME⟩, ⟨t4, PySem.W.mg_of X G n_MOST_PARTED⟩⟩
  have cl : Cls K C := ⟨pg, hd, po, sa⟩
  exact ⟨PySem.W.fnOf "law" "law" (defArgs (topS 52)) (defBody (topS 52)) (defScope (topS 52)) .none kV_law dc_law pm_law an_law cd_law ct_law, fun s v => .of_eq rfl, fun base _ _ => all_ok M ⟨cl, nM, nB, nA, nL⟩ ⟨cl, wA, wS, wT, wM, wK⟩ (PySem.W.mg_of X G aW) (PySem.W.mg_of X G aC) ⟨PySem.W.mg_of X G a_is_integer, k_is_integer, b_is_integer⟩ F_is_integer ⟨PySem.W.mg_of X G a_is_within, k_is_within, b_is_within⟩ F_is_within ⟨PySem.W.mg_of X G a_check_number, k_check_number, b_check_number⟩ F_check_number ⟨PySem.W.mg_of X G a_closed, k_closed, b_closed⟩ F_closed ⟨PySem.W.mg_of X G a_raw_web, k_raw_web, b_raw_web⟩ F_raw_web ⟨PySem.W.mg_of X G a_free_names, k_free_names, b_free_names⟩ F_free_names ⟨PySem.W.mg_of X G a_every_web, k_every_web, b_every_web⟩ F_every_web ⟨PySem.W.mg_of X G a_webs_up_to, k_webs_up_to, b_webs_up_to⟩ F_webs_up_to ⟨PySem.W.mg_of X G a_all_orders, k_all_orders, b_all_orders⟩ F_all_orders ⟨PySem.W.mg_of X G a_deeds_in, k_deeds_in, b_deeds_in⟩ F_deeds_in ⟨PySem.W.mg_of X G a_deeds_of, k_deeds_of, b_deeds_of⟩ F_deeds_of ⟨PySem.W.mg_of X G a_is_book, k_is_book, b_is_book⟩ F_is_book ⟨PySem.W.mg_of X G a_check_book, k_check_book, b_check_book⟩ F_check_book ⟨PySem.W.mg_of X G a_next_side, k_next_side, b_next_side⟩ F_next_side ⟨PySem.W.mg_of X G a_side_of, k_side_of, b_side_of⟩ F_side_of ⟨PySem.W.mg_of X G a_choices, k_choices, b_choices⟩ F_choices ⟨PySem.W.mg_of X G a_chance_by, k_chance_by, b_chance_by⟩ F_chance_by ⟨PySem.W.mg_of X G a_books_part, k_books_part, b_books_part⟩ F_books_part ⟨PySem.W.mg_of X G a__law_tape, k__law_tape, b__law_tape⟩ F__law_tape ⟨PySem.W.mg_of X G a__law_pick, k__law_pick, b__law_pick⟩ F__law_pick ⟨PySem.W.mg_of X G a__law_free, k__law_free, b__law_free⟩ F__law_free ⟨PySem.W.mg_of X G a__law_orders, k__law_orders, b__law_orders⟩ F__law_orders ⟨PySem.W.mg_of X G a__law_every, k__law_every, b__law_every⟩ F__law_every ⟨PySem.W.mg_of X G a__law_can_stand, k__law_can_stand, b__law_can_stand⟩ F__law_can_stand ⟨PySem.W.mg_of X G a__law_put_in, k__law_put_in, b__law_put_in⟩ F__law_put_in ⟨PySem.W.mg_of X G a__law_by_book, k__law_by_book, b__law_by_book⟩ F__law_by_book ⟨PySem.W.mg_of X G a__law_deeds, k__law_deeds, b__law_deeds⟩ F__law_deeds ⟨PySem.W.mg_of X G a__law_many_deeds, k__law_many_deeds, b__law_many_deeds⟩ F__law_many_deeds ⟨PySem.W.mg_of X G a__law_book, k__law_book, b__law_book⟩ F__law_book ⟨PySem.W.mg_of X G a__law_first_parted, k__law_first_parted, b__law_first_parted⟩ F__law_first_parted ⟨PySem.W.mg_of X G a_law, k_law, b_law⟩ F_law ⟨a_keep, i_keep, k_keep⟩ b_keep F_keep ⟨mk, a_init, i_init, kc⟩ b_init F_init⟩
end L3

set_option Elab.async false
set_option linter.all false
set_option maxRecDepth 100000
open PySem
open PySem.W
open PyProof.Rows
set_option maxHeartbeats 0 in
theorem PySem.Challenge.cw_evenorders_k65_whole_books_parted_holds : PySem.Challenge.rw_evenorders_k65_whole_books_parted.Holds := by
  w_on
  o_law
  k_head
  (case hw => w_witness2)
  k_fill
  refine L2.walk_of (l := PySem.Challenge.rw_evenorders_k65_whole_books_parted) (n := 63) (k := 18) (x := "_law_script") (CX := fun _ => L2.CX0) (sp := fun w => L3.spLaw _) rfl (by decide) rfl ⟨rfl, by decide, by decide⟩ (fun w h Y => PySem.W.kIn_of Y) ?F (fun _ _ a ns _ _ hS => ⟨a, ns, rfl, hS, fun _ => rfl⟩) (fun _ _ _ _ _ h => h)
  case F =>
    intro w mg fa h KX G hmg
    refine' L3.all_mk KX G hmg ?aC ?aW ?a_is_integer ?l_is_integer ?c_is_integer ?k_is_integer ?a_is_within ?l_is_within ?c_is_within ?k_is_within ?a_check_number ?l_check_number ?c_check_number ?k_check_number ?a_closed ?l_closed ?c_closed ?k_closed ?a_raw_web ?l_raw_web ?c_raw_web ?k_raw_web ?a_free_names ?l_free_names ?c_free_names ?k_free_names ?a_every_web ?l_every_web ?c_every_web ?k_every_web ?a_webs_up_to ?l_webs_up_to ?c_webs_up_to ?k_webs_up_to ?a_all_orders ?l_all_orders ?c_all_orders ?k_all_orders ?a_deeds_in ?l_deeds_in ?c_deeds_in ?k_deeds_in ?a_deeds_of ?l_deeds_of ?c_deeds_of ?k_deeds_of ?a_is_book ?l_is_book ?c_is_book ?k_is_book ?a_check_book ?l_check_book ?c_check_book ?k_check_book ?a_next_side ?l_next_side ?c_next_side ?k_next_side ?a_side_of ?l_side_of ?c_side_of ?k_side_of ?a_choices ?l_choices ?c_choices ?k_choices ?a_chance_by ?l_chance_by ?c_chance_by ?k_chance_by ?a_books_part ?l_books_part ?c_books_part ?k_books_part ?a__law_tape ?l__law_tape ?c__law_tape ?k__law_tape ?a__law_pick ?l__law_pick ?c__law_pick ?k__law_pick ?a__law_free ?l__law_free ?c__law_free ?k__law_free ?a__law_orders ?l__law_orders ?c__law_orders ?k__law_orders ?a__law_every ?l__law_every ?c__law_every ?k__law_every ?a__law_can_stand ?l__law_can_stand ?c__law_can_stand ?k__law_can_stand ?a__law_put_in ?l__law_put_in ?c__law_put_in ?k__law_put_in ?a__law_by_book ?l__law_by_book ?c__law_by_book ?k__law_by_book ?a__law_deeds ?l__law_deeds ?c__law_deeds ?k__law_deeds ?a__law_many_deeds ?l__law_many_deeds ?c__law_many_deeds ?k__law_many_deeds ?a__law_book ?l__law_book ?c__law_book ?k__law_book ?a__law_first_parted ?l__law_first_parted ?c__law_first_parted ?k__law_first_parted ?a_law ?l_law ?c_law ?k_law ?a_keep ?i_keep ?l_keep ?c_keep ?k_keep ?a_init ?i_init ?l_init ?c_init ?k_init ?pg ?hd ?po ?sa ?mk ?kc ?nM ?nB ?nA ?nL ?wA ?wS ?wT ?wM ?wK ?z_range ?z_len ?z_any ?z_all ?z_tuple ?z_sorted ?z_list ?z_isinstance ?z_int ?z_bool ?z_str ?z_sum ?z_set ?n_MOST_DEEDS ?n_MOST_DEEP ?n_MOST_NAME ?n_MOST_PARTED
    (case aC => k_is)
    (case aW => k_is)
    (case a_is_integer => k_is)
    (case l_is_integer => k_is)
    (case c_is_integer => k_is)
    (case k_is_integer => k_is)
    (case a_is_within => k_is)
    (case l_is_within => k_is)
    (case c_is_within => k_is)
    (case k_is_within => k_is)
    (case a_check_number => k_is)
    (case l_check_number => k_is)
    (case c_check_number => k_is)
    (case k_check_number => k_is)
    (case a_closed => k_is)
    (case l_closed => k_is)
    (case c_closed => k_is)
    (case k_closed => k_is)
    (case a_raw_web => k_is)
    (case l_raw_web => k_is)
    (case c_raw_web => k_is)
    (case k_raw_web => k_is)
    (case a_free_names => k_is)
    (case l_free_names => k_is)
    (case c_free_names => k_is)
    (case k_free_names => k_is)
    (case a_every_web => k_is)
    (case l_every_web => k_is)
    (case c_every_web => k_is)
    (case k_every_web => k_is)
    (case a_webs_up_to => k_is)
    (case l_webs_up_to => k_is)
    (case c_webs_up_to => k_is)
    (case k_webs_up_to => k_is)
    (case a_all_orders => k_is)
    (case l_all_orders => k_is)
    (case c_all_orders => k_is)
    (case k_all_orders => k_is)
    (case a_deeds_in => k_is)
    (case l_deeds_in => k_is)
    (case c_deeds_in => k_is)
    (case k_deeds_in => k_is)
    (case a_deeds_of => k_is)
    (case l_deeds_of => k_is)
    (case c_deeds_of => k_is)
    (case k_deeds_of => k_is)
    (case a_is_book => k_is)
    (case l_is_book => k_is)
    (case c_is_book => k_is)
    (case k_is_book => k_is)
    (case a_check_book => k_is)
    (case l_check_book => k_is)
    (case c_check_book => k_is)
    (case k_check_book => k_is)
    (case a_next_side => k_is)
    (case l_next_side => k_is)
    (case c_next_side => k_is)
    (case k_next_side => k_is)
    (case a_side_of => k_is)
    (case l_side_of => k_is)
    (case c_side_of => k_is)
    (case k_side_of => k_is)
    (case a_choices => k_is)
    (case l_choices => k_is)
    (case c_choices => k_is)
    (case k_choices => k_is)
    (case a_chance_by => k_is)
    (case l_chance_by => k_is)
    (case c_chance_by => k_is)
    (case k_chance_by => k_is)
    (case a_books_part => k_is)
    (case l_books_part => k_is)
    (case c_books_part => k_is)
    (case k_books_part => k_is)
    (case a__law_tape => k_is)
    (case l__law_tape => k_is)
    (case c__law_tape => k_is)
    (case k__law_tape => k_is)
    (case a__law_pick => k_is)
    (case l__law_pick => k_is)
    (case c__law_pick => k_is)
    (case k__law_pick => k_is)
    (case a__law_free => k_is)
    (case l__law_free => k_is)
    (case c__law_free => k_is)
    (case k__law_free => k_is)
    (case a__law_orders => k_is)
    (case l__law_orders => k_is)
    (case c__law_orders => k_is)
    (case k__law_orders => k_is)
    (case a__law_every => k_is)
    (case l__law_every => k_is)
    (case c__law_every => k_is)
    (case k__law_every => k_is)
    (case a__law_can_stand => k_is)
    (case l__law_can_stand => k_is)
    (case c__law_can_stand => k_is)
    (case k__law_can_stand => k_is)
    (case a__law_put_in => k_is)
    (case l__law_put_in => k_is)
    (case c__law_put_in => k_is)
    (case k__law_put_in => k_is)
    (case a__law_by_book => k_is)
    (case l__law_by_book => k_is)
    (case c__law_by_book => k_is)
    (case k__law_by_book => k_is)
    (case a__law_deeds => k_is)
    (case l__law_deeds => k_is)
    (case c__law_deeds => k_is)
    (case k__law_deeds => k_is)
    (case a__law_many_deeds => k_is)
    (case l__law_many_deeds => k_is)
    (case c__law_many_deeds => k_is)
    (case k__law_many_deeds => k_is)
    (case a__law_book => k_is)
    (case l__law_book => k_is)
    (case c__law_book => k_is)
    (case k__law_book => k_is)
    (case a__law_first_parted => k_is)
    (case l__law_first_parted => k_is)
    (case c__law_first_parted => k_is)
    (case k__law_first_parted => k_is)
    (case a_law => k_is)
    (case l_law => k_is)
    (case c_law => k_is)
    (case k_law => k_is)
    (case a_keep => k_is)
    (case i_keep => k_is)
    (case l_keep => k_is)
    (case c_keep => k_is)
    (case k_keep => k_is)
    (case a_init => k_is)
    (case i_init => k_is)
    (case l_init => k_is)
    (case c_init => k_is)
    (case k_init => k_is)
    (case pg => k_is)
    (case hd => k_is)
    (case po => k_is)
    (case sa => k_is)
    (case mk => k_is)
    (case kc => k_is)
    (case nM => k_is)
    (case nB => k_is)
    (case nA => k_is)
    (case nL => k_is)
    (case wA => k_is)
    (case wS => k_is)
    (case wT => k_is)
    (case wM => k_is)
    (case wK => kit_is)
    (case z_range => k_is)
    (case z_len => k_is)
    (case z_any => k_is)
    (case z_all => k_is)
    (case z_tuple => k_is)
    (case z_sorted => k_is)
    (case z_list => k_is)
    (case z_isinstance => k_is)
    (case z_int => k_is)
    (case z_bool => k_is)
    (case z_str => k_is)
    (case z_sum => k_is)
    (case z_set => k_is)
    (case n_MOST_DEEDS => k_is)
    (case n_MOST_DEEP => k_is)
    (case n_MOST_NAME => k_is)
    (case n_MOST_PARTED => k_is)
