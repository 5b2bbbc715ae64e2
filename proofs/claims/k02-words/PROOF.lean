import PyProof.Rows.All
import Wide.All
import OpenK.AllK
import Wide.FinOn
import HandS.ForMost
import HandS.Codes
import HandS.Style
import HandS.IsInst
import HandS.StrMore
import HandS.Conv
import PyProof.ListStr
import PyProof.StrOps2
import HandS.Flow
import PySem.Challenge.RW_likehands_k02_words_a_machine_has
set_option Elab.async false
set_option linter.all false
set_option maxRecDepth 100000
set_option maxHeartbeats 4000000
/-! D1: plain data, what denotes it in a heap, the fit between a data frame and a heap. -/
namespace Dl
open PySem PySem.Spec PyProof.Rows L2

/-- plain data: what a value is, without addresses -/
inductive Dat where
  | non | bl (b : Bool) | int (i : Int) | str (x : Str)
  | tup (ds : List Dat) | lst (ds : List Dat) | dct (kvs : List (Dat × Dat))
  | fn (c : Nat) (ds : List Dat)

mutual
/-- the value v stands for the datum in the heap H -/
def Den (K : PySem.W.Frag) (H : Hp) : Dat → V → Prop
  | .non, v => v = .non
  | .bl b, v => v = .bl b
  | .int i, v => v = .int i
  | .str x, v => v = .str x ∧ x.length ≤ sizeLine
  | .tup ds, v => ∃ a xs, v = .ref a ∧ SqT K H a xs ∧ xs.length ≤ sizeLine ∧ DenL K H ds xs
  | .lst ds, v => ∃ a xs, v = .ref a ∧ SqL K H a xs ∧ xs.length ≤ sizeLine ∧ DenL K H ds xs
  | .dct _, _ => False
  | .fn _ _, _ => False
def DenL (K : PySem.W.Frag) (H : Hp) : List Dat → List V → Prop
  | [], xs => xs = []
  | d :: ds, xs => ∃ v vs, xs = v :: vs ∧ Den K H d v ∧ DenL K H ds vs
end

theorem Same.rd {H H' : Hp} {a : Addr} {u : HO} (e : Same H H') (h : Rd H a u) : Rd H' a u := by
  rcases h with h | ⟨o, h⟩
  · exact .inl (e _ _ h)
  · exact .inr ⟨o, e _ _ h⟩
theorem Same.seqT {K : PySem.W.Frag} {H H' : Hp} {a : Addr} {xs : List V} (e : Same H H') (h : SqT K H a xs) : SqT K H' a xs := by
  rcases h with (h | ⟨o, h⟩) | h
  · exact .inl (.inl (e _ _ h))
  · exact .inl (.inr ⟨o, e _ _ h⟩)
  · exact .inr h

mutual
theorem Den.mono {K : PySem.W.Frag} {H H' : Hp} (s : Same H H') : ∀ (d : Dat) {v : V}, Den K H d v → Den K H' d v
  | .non, _, h => h
  | .bl _, _, h => h
  | .int _, _, h => h
  | .str _, _, h => h
  | .tup ds, _, ⟨a, xs, e, q, l, r⟩ => ⟨a, xs, e, Same.seqT s q, l, DenL.mono s ds r⟩
  | .lst ds, _, ⟨a, xs, e, q, l, r⟩ => ⟨a, xs, e, s.seq q, l, DenL.mono s ds r⟩
  | .dct _, _, h => h
  | .fn _ _, _, h => h
theorem DenL.mono {K : PySem.W.Frag} {H H' : Hp} (s : Same H H') : ∀ (ds : List Dat) {xs : List V}, DenL K H ds xs → DenL K H' ds xs
  | [], _, h => h
  | d :: ds, _, ⟨v, vs, e, h, r⟩ => ⟨v, vs, e, Den.mono s d h, DenL.mono s ds r⟩
end

section
variable {K : PySem.W.Frag} {H : Hp}
theorem DenL.length : ∀ {ds : List Dat} {xs : List V}, DenL K H ds xs → ds.length = xs.length
  | [], _, h => by cases h; rfl
  | d :: ds, _, ⟨v, vs, e, h, r⟩ => by
    cases e
    rw [List.length_cons, List.length_cons, DenL.length r]
theorem DenL.get : ∀ {ds : List Dat} {xs : List V} {i : Nat} {x : V}, DenL K H ds xs → xs[i]? = some x → ∃ d, ds[i]? = some d ∧ Den K H d x
  | [], _, i, x, h, e => by cases h; simp at e
  | d :: ds, _, 0, x, ⟨v, vs, e, h, r⟩, g => by
    cases e
    cases g
    exact ⟨d, rfl, h⟩
  | d :: ds, _, i + 1, x, ⟨v, vs, e, h, r⟩, g => by
    cases e
    exact DenL.get (i := i) r g
theorem DenL.getD : ∀ {ds : List Dat} {xs : List V} {i : Nat} {d : Dat}, DenL K H ds xs → ds[i]? = some d → ∃ x, xs[i]? = some x ∧ Den K H d x
  | [], _, i, x, h, e => by simp at e
  | d :: ds, _, 0, x, ⟨v, vs, e, h, r⟩, g => by
    cases e
    cases g
    exact ⟨v, rfl, h⟩
  | d :: ds, _, i + 1, x, ⟨v, vs, e, h, r⟩, g => by
    cases e
    exact DenL.getD (i := i) r g
theorem DenL.app : ∀ {ds es : List Dat} {xs ys : List V}, DenL K H ds xs → DenL K H es ys → DenL K H (ds ++ es) (xs ++ ys)
  | [], _, _, _, h, g => by cases h; exact g
  | d :: ds, _, _, _, ⟨v, vs, e, h, r⟩, g => by
    cases e
    exact ⟨v, _, rfl, h, DenL.app r g⟩
theorem DenL.one {d : Dat} {x : V} (h : Den K H d x) : DenL K H [d] [x] := ⟨x, [], rfl, h, rfl⟩
theorem DenL.nil : DenL K H [] [] := rfl
theorem DenL.cons {d : Dat} {x : V} {ds : List Dat} {xs : List V} (h : Den K H d x) (r : DenL K H ds xs) : DenL K H (d :: ds) (x :: xs) := ⟨x, xs, rfl, h, r⟩
theorem DenL.take : ∀ {ds : List Dat} {xs : List V} (n : Nat), DenL K H ds xs → DenL K H (ds.take n) (xs.take n)
  | _, _, 0, _ => rfl
  | [], _, n + 1, h => by cases h; rfl
  | d :: ds, _, n + 1, ⟨v, vs, e, h, r⟩ => by
    cases e
    exact ⟨v, _, rfl, h, DenL.take n r⟩
theorem DenL.drop : ∀ {ds : List Dat} {xs : List V} (n : Nat), DenL K H ds xs → DenL K H (ds.drop n) (xs.drop n)
  | _, _, 0, h => h
  | [], _, n + 1, h => by cases h; rfl
  | d :: ds, _, n + 1, ⟨v, vs, e, h, r⟩ => by
    cases e
    exact DenL.drop n r
theorem DenL.set {d : Dat} {x : V} (q : Den K H d x) : ∀ {ds : List Dat} {xs : List V} (n : Nat), DenL K H ds xs → DenL K H (ds.set n d) (xs.set n x)
  | [], _, n, h => by cases h; rfl
  | _ :: ds, _, 0, ⟨v, vs, e, h, r⟩ => by
    cases e
    exact ⟨x, _, rfl, q, r⟩
  | _ :: ds, _, n + 1, ⟨v, vs, e, h, r⟩ => by
    cases e
    exact ⟨v, _, rfl, h, DenL.set q n r⟩
theorem DenL.erase : ∀ {ds : List Dat} {xs : List V} (n : Nat), DenL K H ds xs → DenL K H (ds.eraseIdx n) (xs.eraseIdx n)
  | [], _, n, h => by cases h; rfl
  | _ :: ds, _, 0, ⟨v, vs, e, h, r⟩ => by
    cases e
    exact r
  | _ :: ds, _, n + 1, ⟨v, vs, e, h, r⟩ => by
    cases e
    exact ⟨v, _, rfl, h, DenL.erase n r⟩
theorem DenL.rev : ∀ {ds : List Dat} {xs : List V}, DenL K H ds xs → DenL K H ds.reverse xs.reverse
  | [], _, h => by cases h; rfl
  | d :: ds, _, ⟨v, vs, e, h, r⟩ => by
    cases e
    rw [List.reverse_cons, List.reverse_cons]
    exact DenL.app (DenL.rev r) (DenL.one h)
theorem DenL.empty {ds : List Dat} {xs : List V} (h : DenL K H ds xs) : (!xs.isEmpty) = !ds.isEmpty := by
  cases ds with
  | nil => cases h; rfl
  | cons d ds =>
    obtain ⟨v, vs, e, _, _⟩ := h
    cases e
    rfl
theorem DenL.ints : ∀ {ns : List Int} {xs : List V}, DenL K H (ns.map Dat.int) xs → xs = ns.map V.int
  | [], _, h => h
  | n :: ns, _, ⟨v, vs, e, h, r⟩ => by
    rw [e, show v = V.int n from h, DenL.ints r]
    rfl
theorem DenL.of_ints : ∀ (ns : List Int), DenL K H (ns.map Dat.int) (ns.map V.int)
  | [] => rfl
  | n :: ns => ⟨_, _, rfl, rfl, DenL.of_ints ns⟩
theorem DenL.strs : ∀ {ns : List Str} {xs : List V}, DenL K H (ns.map Dat.str) xs → xs = ns.map V.str ∧ ∀ n ∈ ns, n.length ≤ sizeLine
  | [], _, h => ⟨h, fun _ q => nomatch q⟩
  | n :: ns, _, ⟨v, vs, e, h, r⟩ => by
    obtain ⟨e1, h1⟩ := DenL.strs r
    rw [e, h.1, e1]
    refine ⟨rfl, fun m hm => ?_⟩
    rcases List.mem_cons.mp hm with rfl | hm
    · exact h.2
    · exact h1 m hm
theorem DenL.of_strs : ∀ (ns : List Str), (∀ n ∈ ns, n.length ≤ sizeLine) → DenL K H (ns.map Dat.str) (ns.map V.str)
  | [], _ => rfl
  | n :: ns, h => ⟨_, _, rfl, ⟨rfl, h n List.mem_cons_self⟩, DenL.of_strs ns fun m hm => h m (List.mem_cons_of_mem _ hm)⟩
theorem DenL.bls : ∀ {ns : List Bool} {xs : List V}, DenL K H (ns.map Dat.bl) xs → xs = ns.map V.bl
  | [], _, h => h
  | n :: ns, _, ⟨v, vs, e, h, r⟩ => by
    rw [e, show v = V.bl n from h, DenL.bls r]
    rfl
end

/-- how a slot holds its datum: settled for ever; its own list, that may change; its caller's list, that may change -/
inductive Mu where
  | fz | own | io
  deriving DecidableEq
/-- a slot -/
structure Sl where
  d : Dat
  m : Mu
abbrev Rho := List (Option Sl)
/-- what an expression gives: a datum, a new list of one's own, or what stands in a slot -/
inductive Out where
  | val (d : Dat) | fresh (d : Dat) | place (i : Nat)

def look (r : Rho) (i : Nat) : Option Sl := (r[i]?).join
theorem look_some {r : Rho} {i : Nat} {s : Sl} (h : look r i = some s) : r[i]? = some (some s) := by
  unfold look at h
  cases e : r[i]? with
  | none => rw [e] at h; cases h
  | some o =>
    rw [e] at h
    cases o with
    | none => cases h
    | some t => cases h; rfl
theorem look_of {r : Rho} {i : Nat} {s : Sl} (h : r[i]? = some (some s)) : look r i = some s := by
  unfold look
  rw [h]
  rfl

/-- the list or dict at a, one's own: its items stand in F -/
def Own (K : PySem.W.Frag) (F H : Hp) (a : Addr) : Dat → Prop
  | .lst ds => ∃ xs, H a = some (.lst xs) ∧ xs.length ≤ sizeLine ∧ DenL K F ds xs
  | _ => False

/-- a call of a def: the heap at its entry (H0), what of it is settled (F0), the addresses that it may change, slots that stay -/
structure Fr where
  K : PySem.W.Frag
  H0 : Hp
  F0 : Hp
  io : Addr → Prop
  pro : List (Nat × V)

/-- the addresses that the slots own -/
def Mine (r : Rho) (σ : L2.St) (a : Addr) : Prop := ∃ (i : Nat) (s : Sl), r[i]? = some (some s) ∧ s.m ≠ .fz ∧ σ[i]? = some (some (.ref a))

def SlotOk (A : Fr) (F H : Hp) (s : Sl) (v : V) : Prop :=
  match s.m with
  | .fz => Den A.K F s.d v
  | .own => ∃ a, v = .ref a ∧ F a = none ∧ A.H0 a = none ∧ ¬ A.io a ∧ Own A.K F H a s.d
  | .io => ∃ a, v = .ref a ∧ F a = none ∧ A.io a ∧ Own A.K F H a s.d

structure Fit (A : Fr) (r : Rho) (F : Hp) (σ : L2.St) (H : Hp) : Prop where
  sub : Same F H
  keep : ∀ b o, A.H0 b = some o → ¬ A.io b → H b = some o
  newf : ∀ b o, F b = some o → A.F0 b = some o ∨ A.H0 b = none
  f0 : Same A.F0 F
  ioh : ∀ b, A.io b → ∃ o, H b = some o
  slot : ∀ (i : Nat) (s : Sl), r[i]? = some (some s) → ∃ v, σ[i]? = some (some v) ∧ SlotOk A F H s v
  sep : ∀ (i j : Nat) (s t : Sl) (a : Addr), i ≠ j → r[i]? = some (some s) → s.m ≠ .fz → r[j]? = some (some t) → t.m ≠ .fz → σ[i]? = some (some (.ref a)) → σ[j]? ≠ some (some (.ref a))
  pro : ∀ p ∈ A.pro, σ[p.1]? = some (some p.2)
  len : r.length = σ.length

/-- the datum as it is seen: a list's items stand in F, itself in H -/
def Seen (K : PySem.W.Frag) (F H : Hp) : Dat → V → Prop
  | .lst ds, v => ∃ a xs, v = .ref a ∧ SqL K H a xs ∧ xs.length ≤ sizeLine ∧ DenL K F ds xs
  | d, v => Den K F d v
theorem Seen.of {K : PySem.W.Frag} {F H : Hp} (s : Same F H) {d : Dat} {v : V} (h : Den K F d v) : Seen K F H d v := by
  cases d with
  | lst ds =>
    obtain ⟨a, xs, e, q, l, r⟩ := h
    exact ⟨a, xs, e, s.seq q, l, r⟩
  | _ => exact h
theorem Seen.own {K : PySem.W.Frag} {F H : Hp} {a : Addr} {d : Dat} (h : Own K F H a d) : Seen K F H d (.ref a) := by
  cases d with
  | lst ds =>
    obtain ⟨xs, e, l, r⟩ := h
    exact ⟨a, xs, rfl, SqL.of e, l, r⟩
  | _ => exact h.elim
theorem Fit.seen {A : Fr} {r : Rho} {F : Hp} {σ : L2.St} {H : Hp} (h : Fit A r F σ H) {i : Nat} {s : Sl} {v : V} (e : r[i]? = some (some s)) (ev : σ[i]? = some (some v)) : Seen A.K F H s.d v := by
  obtain ⟨u, e2, q⟩ := h.slot i s e
  rw [ev] at e2
  cases e2
  unfold SlotOk at q
  split at q
  · exact Seen.of h.sub q
  · obtain ⟨a, rfl, _, _, _, o⟩ := q
    exact Seen.own o
  · obtain ⟨a, rfl, _, _, o⟩ := q
    exact Seen.own o

/-- what an expression has given -/
def OutOk (A : Fr) (r : Rho) (F : Hp) (σ : L2.St) (H : Hp) : Out → V → Prop
  | .val d, v => Den A.K F d v
  | .fresh d, v => ∃ a, v = .ref a ∧ F a = none ∧ A.H0 a = none ∧ ¬ A.io a ∧ Own A.K F H a d ∧ ¬ Mine r σ a
  | .place i, v => σ[i]? = some (some v)

/-- what an operation has made of a heap -/
structure New (K : PySem.W.Frag) (F H F' H' : Hp) : Prop where
  ff : Same F F'
  fh : Same F' H'
  hh : Same H H'
  nw : ∀ b o, F' b = some o → F b = some o ∨ H b = none
def NewOk (K : PySem.W.Frag) (F H : Hp) (v : V) (H' : Hp) : Out → Prop
  | .val d => ∃ F', New K F H F' H' ∧ Den K F' d v
  | .fresh d => ∃ a, New K F H F H' ∧ v = .ref a ∧ H a = none ∧ Own K F H' a d
  | .place _ => False

section
variable {K : PySem.W.Frag} {F H : Hp}
theorem New.refl (s : Same F H) : New K F H F H := ⟨Same.refl F, s, Same.refl H, fun _ _ h => .inl h⟩
theorem same_upd {H : Hp} {p : Addr} {o : HO} (h : H p = none) : Same H (upd H p o) := fun b x e => by
  rw [upd_ne (ne_of_none e h)]
  exact e
theorem NewOk.same (s : Same F H) {d : Dat} {v : V} (h : Den K F d v) : NewOk K F H v H (.val d) := ⟨F, New.refl s, h⟩
/-- a new tuple -/
theorem NewOk.tup (s : Same F H) {p : Addr} (hp : H p = none) {xs : List V} {ds : List Dat} (l : xs.length ≤ sizeLine) (h : DenL K F ds xs) : NewOk K F H (.ref p) (upd H p (.tup xs)) (.val (.tup ds)) := by
  have fp : F p = none := s.free hp
  refine ⟨upd F p (.tup xs), ⟨same_upd fp, fun b o e => ?_, same_upd hp, fun b o e => ?_⟩, p, xs, rfl, SqT.of upd_same, l, DenL.mono (same_upd fp) ds h⟩
  · by_cases hb : b = p
    · subst hb
      rw [upd_same] at e ⊢
      exact e
    · rw [upd_ne hb] at e ⊢
      exact s b o e
  · by_cases hb : b = p
    · subst hb
      exact .inr hp
    · rw [upd_ne hb] at e
      exact .inl e
/-- a new list -/
theorem NewOk.lst (s : Same F H) {p : Addr} (hp : H p = none) {xs : List V} {ds : List Dat} (l : xs.length ≤ sizeLine) (h : DenL K F ds xs) : NewOk K F H (.ref p) (upd H p (.lst xs)) (.fresh (.lst ds)) :=
  ⟨p, ⟨Same.refl F, fun b o e => same_upd hp b o (s b o e), same_upd hp, fun _ _ e => .inl e⟩, rfl, hp, xs, upd_same, l, h⟩
end

section
variable {A : Fr} {r : Rho} {F H F' H' : Hp} {σ : L2.St}
theorem Own.grow {K : PySem.W.Frag} (ff : Same F F') (hh : Same H H') {a : Addr} {d : Dat} (h : Own K F H a d) : Own K F' H' a d := by
  cases d with
  | lst ds =>
    obtain ⟨xs, e, l, q⟩ := h
    exact ⟨xs, hh _ _ e, l, DenL.mono ff ds q⟩
  | _ => exact h
/-- .. where the object itself stays -/
theorem Own.stay {K : PySem.W.Frag} (ff : Same F F') {a : Addr} (hh : ∀ o, H a = some o → H' a = some o) {d : Dat} (h : Own K F H a d) : Own K F' H' a d := by
  cases d with
  | lst ds =>
    obtain ⟨xs, e, l, q⟩ := h
    exact ⟨xs, hh _ e, l, DenL.mono ff ds q⟩
  | _ => exact h
theorem Own.there {K : PySem.W.Frag} {a : Addr} {d : Dat} (h : Own K F H a d) : ∃ o, H a = some o := by
  cases d with
  | lst ds =>
    obtain ⟨xs, e, l, q⟩ := h
    exact ⟨_, e⟩
  | _ => exact h.elim
/-- an address at which nothing stands was free at the entry -/
theorem Fit.free (h : Fit A r F σ H) {b : Addr} (e : H b = none) : A.H0 b = none ∧ ¬ A.io b := by
  have nio : ¬ A.io b := fun z => by
    obtain ⟨o, q⟩ := h.ioh b z
    rw [e] at q
    cases q
  refine ⟨?_, nio⟩
  cases q : A.H0 b with
  | none => rfl
  | some o =>
    rw [h.keep b o q nio] at e
    cases e
/-- what a slot owns -/
theorem SlotOk.mine {s : Sl} {a : Addr} (h : SlotOk A F H s (.ref a)) (m : s.m ≠ .fz) : F a = none ∧ ((A.H0 a = none ∧ ¬ A.io a) ∨ A.io a) ∧ Own A.K F H a s.d := by
  unfold SlotOk at h
  split at h
  · rename_i e
    exact absurd e m
  · obtain ⟨b, e, h1, h2, h3, h4⟩ := h
    cases e
    exact ⟨h1, .inl ⟨h2, h3⟩, h4⟩
  · obtain ⟨b, e, h1, h2, h4⟩ := h
    cases e
    exact ⟨h1, .inr h2, h4⟩
theorem SlotOk.ref {s : Sl} {v : V} (h : SlotOk A F H s v) (m : s.m ≠ .fz) : ∃ a, v = .ref a := by
  unfold SlotOk at h
  split at h
  · rename_i e
    exact absurd e m
  · obtain ⟨b, e, _⟩ := h
    exact ⟨b, e⟩
  · obtain ⟨b, e, _⟩ := h
    exact ⟨b, e⟩
theorem Fit.mine (h : Fit A r F σ H) {a : Addr} (m : Mine r σ a) : F a = none ∧ ((A.H0 a = none ∧ ¬ A.io a) ∨ A.io a) ∧ ∃ o, H a = some o := by
  obtain ⟨i, s, e1, em, e2⟩ := m
  obtain ⟨v, e3, q⟩ := h.slot i _ e1
  rw [e2] at e3
  cases e3
  obtain ⟨h1, h2, h3⟩ := q.mine em
  exact ⟨h1, h2, Own.there h3⟩
/-- a slot's word is carried over -/
theorem SlotOk.stay {s : Sl} {v : V} (h : SlotOk A F H s v) (ff : Same F F') (hn : ∀ a, v = .ref a → s.m ≠ .fz → F a = none → F' a = none) (hh : ∀ a, v = .ref a → s.m ≠ .fz → ∀ o, H a = some o → H' a = some o) : SlotOk A F' H' s v := by
  unfold SlotOk at h ⊢
  split
  · rename_i e
    rw [e] at h
    exact Den.mono ff _ h
  · rename_i e
    rw [e] at h
    obtain ⟨b, e1, h1, h2, h3, h4⟩ := h
    exact ⟨b, e1, hn b e1 (by rw [e]; decide) h1, h2, h3, Own.stay ff (hh b e1 (by rw [e]; decide)) h4⟩
  · rename_i e
    rw [e] at h
    obtain ⟨b, e1, h1, h2, h4⟩ := h
    exact ⟨b, e1, hn b e1 (by rw [e]; decide) h1, h2, Own.stay ff (hh b e1 (by rw [e]; decide)) h4⟩
/-- the fit stays while the heap grows -/
theorem Fit.grow (h : Fit A r F σ H) (n : New A.K F H F' H') : Fit A r F' σ H' := by
  refine ⟨n.fh, fun b o e x => n.hh _ _ (h.keep b o e x), fun b o e => ?_, h.f0.trans n.ff, fun b x => ?_, fun i s e => ?_, h.sep, h.pro, h.len⟩
  · rcases n.nw b o e with q | q
    · exact h.newf b o q
    · exact .inr (h.free q).1
  · obtain ⟨o, q⟩ := h.ioh b x
    exact ⟨o, n.hh _ _ q⟩
  · obtain ⟨v, e2, q⟩ := h.slot i s e
    refine ⟨v, e2, q.stay n.ff (fun a ea em fa => ?_) (fun a _ _ o ho => n.hh _ _ ho)⟩
    subst ea
    obtain ⟨o, ho⟩ := Own.there (q.mine em).2.2
    cases qf : F' a with
    | none => rfl
    | some u =>
      rcases n.nw a u qf with z | z
      · rw [fa] at z; cases z
      · rw [ho] at z; cases z
theorem Fit.made (h : Fit A r F σ H) {v : V} {o : Out} (m : NewOk A.K F H v H' o) : ∃ F', Same F F' ∧ Fit A r F' σ H' ∧ OutOk A r F' σ H' o v := by
  cases o with
  | val d =>
    obtain ⟨F', n, q⟩ := m
    exact ⟨F', n.ff, h.grow n, q⟩
  | fresh d =>
    obtain ⟨a, n, e, hn, q⟩ := m
    refine ⟨F, Same.refl F, h.grow n, a, e, h.sub.free hn, (h.free hn).1, (h.free hn).2, q, fun mm => ?_⟩
    obtain ⟨_, _, o, z⟩ := h.mine mm
    rw [hn] at z
    cases z
  | place i => exact m.elim
/-- a list that no slot of r owns is settled -/
theorem Fit.settle (h : Fit A r F σ H) {a : Addr} {d : Dat} (h1 : F a = none) (h2 : A.H0 a = none) (h4 : Own A.K F H a d) (h5 : ¬ Mine r σ a) :
    ∃ F', Same F F' ∧ Fit A r F' σ H ∧ Den A.K F' d (.ref a) := by
  cases d with
  | lst ds =>
    obtain ⟨xs, e, l, q⟩ := h4
    have sf : Same F (upd F a (.lst xs)) := same_upd h1
    refine ⟨upd F a (.lst xs), sf, ⟨fun b o g => ?_, h.keep, fun b o g => ?_, h.f0.trans sf, h.ioh, fun i s g => ?_, h.sep, h.pro, h.len⟩, a, xs, rfl, SqL.of upd_same, l, DenL.mono sf ds q⟩
    · by_cases hb : b = a
      · subst hb
        rw [upd_same] at g
        cases g
        exact e
      · rw [upd_ne hb] at g
        exact h.sub b o g
    · by_cases hb : b = a
      · subst hb
        exact .inr h2
      · rw [upd_ne hb] at g
        exact h.newf b o g
    · obtain ⟨v, e2, q2⟩ := h.slot i s g
      refine ⟨v, e2, q2.stay sf (fun b eb em fb => ?_) (fun _ _ _ _ ho => ho)⟩
      have nb : b ≠ a := fun z => h5 ⟨i, s, g, em, by rw [e2, eb, z]⟩
      rw [upd_ne nb]
      exact fb
  | _ => exact h4.elim

/-! ### slots -/
theorem Mine.sub {r r' : Rho} {σ : L2.St} {a : Addr} (hs : ∀ (i : Nat) (s : Sl), r'[i]? = some (some s) → s.m ≠ .fz → r[i]? = some (some s)) (m : Mine r' σ a) : Mine r σ a := by
  obtain ⟨i, s, e1, e2, e3⟩ := m
  exact ⟨i, s, hs i s e1 e2, e2, e3⟩
/-- slots forgotten, others as they were -/
theorem Fit.less (h : Fit A r F σ H) {r' : Rho} (hl : r'.length = r.length) (hs : ∀ (i : Nat) (s : Sl), r'[i]? = some (some s) → r[i]? = some (some s)) : Fit A r' F σ H :=
  ⟨h.sub, h.keep, h.newf, h.f0, h.ioh, fun i s e => h.slot i s (hs i s e), fun i j s t a n e1 m1 e2 m2 => h.sep i j s t a n (hs i s e1) m1 (hs j t e2) m2, h.pro, hl.trans h.len⟩
theorem set_get {α : Type} {r : List (Option α)} {i j : Nat} {o : Option α} {s : α} (h : (r.set i o)[j]? = some (some s)) : (j = i ∧ o = some s) ∨ (j ≠ i ∧ r[j]? = some (some s)) := by
  by_cases e : i = j
  · subst e
    rw [List.getElem?_set] at h
    split at h
    · split at h
      · left
        exact ⟨rfl, Option.some.inj h⟩
      · cases h
    · rename_i n
      exact absurd rfl n
  · rw [List.getElem?_set_ne e] at h
    exact .inr ⟨fun q => e q.symm, h⟩
theorem Fit.forget (h : Fit A r F σ H) (i : Nat) : Fit A (r.set i none) F σ H := by
  refine h.less (by rw [List.length_set]) fun j s e => ?_
  rcases set_get e with ⟨_, q⟩ | ⟨_, q⟩
  · cases q
  · exact q
/-- a new value for a slot that does not stay -/
theorem Fit.put (h : Fit A r F σ H) {i : Nat} {s : Sl} {v : V} (hp : ∀ p ∈ A.pro, p.1 ≠ i) (hv : SlotOk A F H s v) (hm : s.m ≠ .fz → ∀ a, v = .ref a → ¬ Mine r σ a) : Fit A (r.set i (some s)) F (σ.set i (some v)) H := by
  have hσ : ∀ {j : Nat} {u : V}, i < σ.length ∨ j ≠ i → σ[j]? = some (some u) → j ≠ i → (σ.set i (some v))[j]? = some (some u) := fun _ e n => by rw [List.getElem?_set_ne (Ne.symm n)]; exact e
  have self : i < σ.length → (σ.set i (some v))[i]? = some (some v) := fun hi => List.getElem?_set_self hi
  have get : ∀ {j : Nat} {t : Sl}, (r.set i (some s))[j]? = some (some t) → (j = i ∧ t = s ∧ i < σ.length) ∨ (j ≠ i ∧ r[j]? = some (some t)) := fun {j t} e => by
    rcases set_get e with ⟨rfl, q⟩ | q
    · refine .inl ⟨rfl, (Option.some.inj q).symm, ?_⟩
      rw [← h.len]
      have := (List.getElem?_eq_some_iff.mp e).1
      rw [List.length_set] at this
      exact this
    · exact .inr q
  refine ⟨h.sub, h.keep, h.newf, h.f0, h.ioh, fun j t e => ?_, fun j k t u a n e1 m1 e2 m2 s1 s2 => ?_, fun p hpp => ?_, by rw [List.length_set, List.length_set]; exact h.len⟩
  · rcases get e with ⟨rfl, rfl, hi⟩ | ⟨n, q⟩
    · exact ⟨v, self hi, hv⟩
    · obtain ⟨w, e1, e2⟩ := h.slot j t q
      exact ⟨w, by rw [List.getElem?_set_ne (Ne.symm n)]; exact e1, e2⟩
  · rcases get e1 with ⟨rfl, rfl, hi⟩ | ⟨n1, q1⟩
    · rcases get e2 with ⟨rfl, _, _⟩ | ⟨n2, q2⟩
      · exact n rfl
      · rw [self hi] at s1
        rw [List.getElem?_set_ne (Ne.symm n2)] at s2
        have ev : v = .ref a := Option.some.inj (Option.some.inj s1)
        exact hm m1 a ev ⟨k, u, q2, m2, s2⟩
    · rw [List.getElem?_set_ne (Ne.symm n1)] at s1
      rcases get e2 with ⟨rfl, rfl, hi⟩ | ⟨n2, q2⟩
      · rw [self hi] at s2
        have ev : v = .ref a := Option.some.inj (Option.some.inj s2)
        exact hm m2 a ev ⟨j, t, q1, m1, s1⟩
      · rw [List.getElem?_set_ne (Ne.symm n2)] at s2
        exact h.sep j k t u a n q1 m1 q2 m2 s1 s2
  · rw [List.getElem?_set_ne (Ne.symm (hp p hpp))]
    exact h.pro p hpp

/-! ### what is held while the rest is reckoned -/
def res (r : Rho) : Out → Option Dat
  | .val d => some d
  | .fresh d => some d
  | .place i => (look r i).map (·.d)
def Held (K : PySem.W.Frag) (F : Hp) (σ : L2.St) : Out → V → Prop
  | .val d, v => Den K F d v
  | .fresh d, v => Den K F d v
  | .place i, v => σ[i]? = some (some v)
theorem Held.mono {K : PySem.W.Frag} (s : Same F F') {o : Out} {v : V} (h : Held K F σ o v) : Held K F' σ o v := by
  cases o with
  | val d => exact Den.mono s d h
  | fresh d => exact Den.mono s d h
  | place i => exact h
theorem Fit.hold (h : Fit A r F σ H) {o : Out} {v : V} (q : OutOk A r F σ H o v) : ∃ F', Same F F' ∧ Fit A r F' σ H ∧ Held A.K F' σ o v := by
  cases o with
  | val d => exact ⟨F, Same.refl F, h, q⟩
  | fresh d =>
    obtain ⟨a, rfl, h1, h2, h3, h4, h5⟩ := q
    exact h.settle h1 h2 h4 h5
  | place i => exact ⟨F, Same.refl F, h, q⟩
theorem Held.seen (h : Fit A r F σ H) {o : Out} {v : V} {d : Dat} (q : Held A.K F σ o v) (e : res r o = some d) : Seen A.K F H d v := by
  cases o with
  | val x => cases e; exact Seen.of h.sub q
  | fresh x => cases e; exact Seen.of h.sub q
  | place i =>
    have e : (look r i).map (·.d) = some d := e
    cases hl : look r i with
    | none => rw [hl] at e; cases e
    | some s =>
      rw [hl] at e
      cases e
      exact h.seen (look_some hl) q

/-- settle what an expression gave -/
def frz (r : Rho) : Out → Option (Dat × Rho)
  | .val d => some (d, r)
  | .fresh d => some (d, r)
  | .place i => match look r i with
    | some ⟨d, .fz⟩ => some (d, r)
    | some ⟨d, .own⟩ => some (d, r.set i (some ⟨d, .fz⟩))
    | _ => none
theorem Fit.frz (h : Fit A r F σ H) {o : Out} {v : V} {d : Dat} {r' : Rho} (q : OutOk A r F σ H o v) (e : frz r o = some (d, r')) : ∃ F', Same F F' ∧ Fit A r' F' σ H ∧ Den A.K F' d v := by
  cases o with
  | val x => cases e; exact ⟨F, Same.refl F, h, q⟩
  | fresh x =>
    cases e
    obtain ⟨a, rfl, h1, h2, h3, h4, h5⟩ := q
    exact h.settle h1 h2 h4 h5
  | place i =>
    have e : (match look r i with
      | some ⟨d, .fz⟩ => some (d, r)
      | some ⟨d, .own⟩ => some (d, r.set i (some ⟨d, .fz⟩))
      | _ => none) = some (d, r') := e
    split at e
    · rename_i x hl
      cases e
      obtain ⟨u, e2, qs⟩ := h.slot i _ (look_some hl)
      rw [show σ[i]? = some (some v) from q] at e2
      cases e2
      exact ⟨F, Same.refl F, h, qs⟩
    · rename_i x hl
      cases e
      have hi := look_some hl
      obtain ⟨u, e2, qs⟩ := h.slot i _ hi
      rw [show σ[i]? = some (some v) from q] at e2
      cases e2
      obtain ⟨a, rfl, h1, h2, h3, h4⟩ := qs
      have hf := h.forget i
      have nm : ¬ Mine (r.set i none) σ a := fun m => by
        obtain ⟨j, t, e1, em, e3⟩ := m
        rcases set_get e1 with ⟨_, z⟩ | ⟨n, z⟩
        · cases z
        · exact h.sep j i t _ a n z em hi (fun z => nomatch z) e3 q
      obtain ⟨F', sf, fit', dn⟩ := hf.settle h1 h2 h4 nm
      refine ⟨F', sf, ⟨fit'.sub, fit'.keep, fit'.newf, fit'.f0, fit'.ioh, fun j t g => ?_, fun j k t u b n g1 m1 g2 m2 => ?_, fit'.pro, by rw [List.length_set]; exact h.len⟩, dn⟩
      · rcases set_get g with ⟨rfl, z⟩ | ⟨n, z⟩
        · cases z
          exact ⟨_, q, dn⟩
        · exact fit'.slot j t (by rw [List.getElem?_set_ne (Ne.symm n)]; exact z)
      · rcases set_get g1 with ⟨rfl, z⟩ | ⟨n1, z1⟩
        · cases z
          exact absurd rfl m1
        · rcases set_get g2 with ⟨rfl, z⟩ | ⟨n2, z2⟩
          · cases z
            exact absurd rfl m2
          · exact h.sep j k t u b n z1 m1 z2 m2
    · cases e
/-- a slot's own list is rewritten -/
theorem Fit.rewrite (h : Fit A r F σ H) {i : Nat} {s : Sl} {a : Addr} {ds : List Dat} {xs : List V} (e : r[i]? = some (some s)) (em : s.m ≠ .fz) (ev : σ[i]? = some (some (.ref a))) (l : xs.length ≤ sizeLine) (q : DenL A.K F ds xs) :
    Fit A (r.set i (some ⟨.lst ds, s.m⟩)) F σ (upd H a (.lst xs)) := by
  obtain ⟨v, e2, qs⟩ := h.slot i s e
  rw [ev] at e2
  cases e2
  obtain ⟨h1, h2, h3⟩ := qs.mine em
  have hne : ∀ b o, F b = some o → b ≠ a := fun b o z w => by subst w; rw [h1] at z; cases z
  refine ⟨fun b o z => ?_, fun b o z y => ?_, h.newf, h.f0, fun b z => ?_, fun j t g => ?_, fun j k t u b n g1 m1 g2 m2 => ?_, h.pro, by rw [List.length_set]; exact h.len⟩
  · rw [upd_ne (hne b o z)]
    exact h.sub b o z
  · have nb : b ≠ a := fun w => by
      subst w
      rcases h2 with ⟨w, _⟩ | w
      · rw [z] at w; cases w
      · exact y w
    rw [upd_ne nb]
    exact h.keep b o z y
  · by_cases hb : b = a
    · subst hb
      exact ⟨_, upd_same⟩
    · rw [upd_ne hb]
      exact h.ioh b z
  · rcases set_get g with ⟨rfl, z⟩ | ⟨n, z⟩
    · cases z
      refine ⟨_, ev, ?_⟩
      have o' : Own A.K F (upd H a (.lst xs)) a (.lst ds) := ⟨xs, upd_same, l, q⟩
      unfold SlotOk at qs ⊢
      split
      · rename_i z
        exact absurd z em
      · rename_i z
        have z' : s.m = .own := z
        rw [z'] at qs
        obtain ⟨b, e3, k1, k2, k3, _⟩ := qs
        cases e3
        exact ⟨a, rfl, k1, k2, k3, o'⟩
      · rename_i z
        have z' : s.m = .io := z
        rw [z'] at qs
        obtain ⟨b, e3, k1, k2, _⟩ := qs
        cases e3
        exact ⟨a, rfl, k1, k2, o'⟩
    · obtain ⟨w, e3, q3⟩ := h.slot j t z
      refine ⟨w, e3, q3.stay (Same.refl F) (fun _ _ _ fb => fb) fun b eb mb o ho => ?_⟩
      subst eb
      have nb : b ≠ a := fun w => by
        subst w
        exact h.sep j i t s b n z mb e em e3 ev
      rw [upd_ne nb]
      exact ho
  · rcases set_get g1 with ⟨rfl, z⟩ | ⟨n1, z1⟩
    · cases z
      rcases set_get g2 with ⟨rfl, _⟩ | ⟨n2, z2⟩
      · exact absurd rfl n
      · exact h.sep j k s u b n e m1 z2 m2
    · rcases set_get g2 with ⟨rfl, z⟩ | ⟨n2, z2⟩
      · cases z
        exact h.sep j k t s b n z1 m1 e m2
      · exact h.sep j k t u b n z1 m1 z2 m2
end
end Dl

/-! D2: operations upon plain data, and that the model does them. -/
namespace Dl
open PySem PySem.Spec PyProof.Rows L2

/-! ### order of texts, sorting -/
def ltS (x y : Str) : Bool := ltCps x.cps.toList y.cps.toList
def insS (x : Str) : List Str → List Str
  | [] => [x]
  | y :: r => if ltS y x = true then y :: insS x r else x :: y :: r
def sortS : List Str → List Str
  | [] => []
  | x :: r => insS x (sortS r)
theorem ltC_irr : ∀ a : List Nat, ltCps a a = false
  | [] => rfl
  | a :: r => by simp [ltCps, ltC_irr r]
theorem ltC_trans : ∀ a b c : List Nat, ltCps a b = true → ltCps b c = true → ltCps a c = true
  | [], [], _, h, _ => by simp [ltCps] at h
  | [], _ :: _, [], _, h => by simp [ltCps] at h
  | [], _ :: _, _ :: _, _, _ => rfl
  | _ :: _, [], _, h, _ => by simp [ltCps] at h
  | _ :: _, _ :: _, [], _, h => by simp [ltCps] at h
  | x :: a, y :: b, z :: c, h, g => by
    simp only [ltCps, Bool.or_eq_true, decide_eq_true_eq, Bool.and_eq_true, beq_iff_eq] at h g ⊢
    rcases h with h | ⟨h1, h2⟩ <;> rcases g with g | ⟨g1, g2⟩
    · exact .inl (by omega)
    · exact .inl (by omega)
    · exact .inl (by omega)
    · exact .inr ⟨by omega, ltC_trans a b c h2 g2⟩
theorem ltC_tot : ∀ a b : List Nat, ltCps a b = false → ltCps b a = false → a = b
  | [], [], _, _ => rfl
  | [], _ :: _, h, _ => by simp [ltCps] at h
  | _ :: _, [], _, h => by simp [ltCps] at h
  | x :: a, y :: b, h, g => by
    simp only [ltCps, Bool.or_eq_false_iff, decide_eq_false_iff_not, Bool.and_eq_false_iff] at h g
    have e : x = y := by omega
    subst e
    rw [ltC_tot a b (by simpa using h.2) (by simpa using g.2)]
theorem ltS_irr (x : Str) : ltS x x = false := ltC_irr _
theorem ltS_trans {x y z : Str} (h : ltS x y = true) (g : ltS y z = true) : ltS x z = true := ltC_trans _ _ _ h g
theorem ltS_tot {x y : Str} (h : ltS x y = false) (g : ltS y x = false) : x = y := TL.ext_tl (ltC_tot _ _ h g)
theorem leS_trans {x y z : Str} (h : ltS y x = false) (g : ltS z y = false) : ltS z x = false := by
  cases q : ltS z x with
  | false => rfl
  | true =>
    cases w : ltS x y with
    | true => rw [ltS_trans q w] at g; cases g
    | false => rw [ltS_tot w h, g] at q; cases q
abbrev RisS (l : List Str) : Prop := l.Pairwise fun x y => ltS y x = false
theorem insS_perm (x : Str) : ∀ l : List Str, (insS x l).Perm (x :: l)
  | [] => List.Perm.refl _
  | y :: r => by
    unfold insS
    split
    · exact ((insS_perm x r).cons y).trans (List.Perm.swap x y r)
    · exact List.Perm.refl _
theorem sortS_perm : ∀ l : List Str, (sortS l).Perm l
  | [] => List.Perm.refl _
  | x :: r => (insS_perm x (sortS r)).trans ((sortS_perm r).cons x)
theorem insS_ris (x : Str) : ∀ l : List Str, RisS l → RisS (insS x l)
  | [], _ => List.pairwise_singleton _ _
  | y :: r, h => by
    unfold insS
    have h' := List.pairwise_cons.mp h
    split
    · rename_i hy
      refine List.pairwise_cons.mpr ⟨fun z hz => ?_, insS_ris x r h'.2⟩
      rcases List.mem_cons.mp ((insS_perm x r).mem_iff.mp hz) with rfl | hz
      · cases q : ltS z y with
        | false => rfl
        | true => have := ltS_trans hy q; rw [ltS_irr] at this; cases this
      · exact h'.1 z hz
    · rename_i hy
      have hy' : ltS y x = false := by simpa using hy
      refine List.pairwise_cons.mpr ⟨fun z hz => ?_, h⟩
      rcases List.mem_cons.mp hz with rfl | hz
      · exact hy'
      · exact leS_trans hy' (h'.1 z hz)
theorem sortS_ris : ∀ l : List Str, RisS (sortS l)
  | [] => List.Pairwise.nil
  | x :: r => insS_ris x _ (sortS_ris r)
theorem ris_unique : ∀ {l m : List Str}, RisS l → RisS m → l.Perm m → l = m
  | [], m, _, _, p => by rw [List.nil_perm.mp p]
  | x :: l, [], _, _, p => by have := p.length_eq; simp at this
  | x :: l, y :: m, h, g, p => by
    have h' := List.pairwise_cons.mp h
    have g' := List.pairwise_cons.mp g
    have e : x = y := by
      have hx : x ∈ y :: m := p.mem_iff.mp List.mem_cons_self
      have hy : y ∈ x :: l := p.mem_iff.mpr List.mem_cons_self
      rcases List.mem_cons.mp hx with e | hx
      · exact e
      rcases List.mem_cons.mp hy with e | hy
      · exact e.symm
      exact ltS_tot (g'.1 x hx) (h'.1 y hy)
    subst e
    rw [ris_unique h'.2 g'.2 (List.Perm.cons_inv p)]
theorem risingS_iff : ∀ (l : List Str) (x : Str), risingS x l = true ↔ RisS (x :: l)
  | [], x => by simp [risingS]
  | y :: r, x => by
    unfold risingS
    rw [Bool.and_eq_true, risingS_iff r y, Bool.not_eq_true']
    constructor
    · rintro ⟨h1, h2⟩
      have h2' := List.pairwise_cons.mp h2
      refine List.pairwise_cons.mpr ⟨fun z hz => ?_, h2⟩
      rcases List.mem_cons.mp hz with rfl | hz
      · exact h1
      · exact leS_trans h1 (h2'.1 z hz)
    · intro h
      have h' := List.pairwise_cons.mp h
      exact ⟨h'.1 y List.mem_cons_self, h'.2⟩
theorem sortedS_iff (l : List Str) : sortedS l = true ↔ RisS l := by
  cases l with
  | nil => simp [sortedS]
  | cons x r => exact risingS_iff r x
theorem sortS_of {ys xs : List Str} (p : ys.Perm xs) (h : sortedS ys = true) : ys = sortS xs :=
  ris_unique ((sortedS_iff ys).mp h) (sortS_ris xs) (p.trans (sortS_perm xs).symm)
def insI (x : Int) : List Int → List Int
  | [] => [x]
  | y :: r => if y < x then y :: insI x r else x :: y :: r
def sortI : List Int → List Int
  | [] => []
  | x :: r => insI x (sortI r)
theorem insI_perm (x : Int) : ∀ l : List Int, (insI x l).Perm (x :: l)
  | [] => List.Perm.refl _
  | y :: r => by
    unfold insI
    split
    · exact ((insI_perm x r).cons y).trans (List.Perm.swap x y r)
    · exact List.Perm.refl _
theorem sortI_perm : ∀ l : List Int, (sortI l).Perm l
  | [] => List.Perm.refl _
  | x :: r => (insI_perm x (sortI r)).trans ((sortI_perm r).cons x)
theorem insI_ris (x : Int) : ∀ l : List Int, l.Pairwise (· ≤ ·) → (insI x l).Pairwise (· ≤ ·)
  | [], _ => List.pairwise_singleton _ _
  | y :: r, h => by
    unfold insI
    have h' := List.pairwise_cons.mp h
    split
    · refine List.pairwise_cons.mpr ⟨fun z hz => ?_, insI_ris x r h'.2⟩
      rcases List.mem_cons.mp ((insI_perm x r).mem_iff.mp hz) with rfl | hz
      · omega
      · exact h'.1 z hz
    · refine List.pairwise_cons.mpr ⟨fun z hz => ?_, h⟩
      rcases List.mem_cons.mp hz with rfl | hz
      · omega
      · have := h'.1 z hz
        omega
theorem sortI_ris : ∀ l : List Int, (sortI l).Pairwise (· ≤ ·)
  | [] => List.Pairwise.nil
  | x :: r => insI_ris x _ (sortI_ris r)
theorem risI_unique : ∀ {l m : List Int}, l.Pairwise (· ≤ ·) → m.Pairwise (· ≤ ·) → l.Perm m → l = m
  | [], m, _, _, p => by rw [List.nil_perm.mp p]
  | x :: l, [], _, _, p => by have := p.length_eq; simp at this
  | x :: l, y :: m, h, g, p => by
    have h' := List.pairwise_cons.mp h
    have g' := List.pairwise_cons.mp g
    have e : x = y := by
      have hx : x ∈ y :: m := p.mem_iff.mp List.mem_cons_self
      have hy : y ∈ x :: l := p.mem_iff.mpr List.mem_cons_self
      rcases List.mem_cons.mp hx with e | hx
      · exact e
      rcases List.mem_cons.mp hy with e | hy
      · exact e.symm
      have h1 := g'.1 x hx
      have h2 := h'.1 y hy
      omega
    subst e
    rw [risI_unique h'.2 g'.2 (List.Perm.cons_inv p)]
theorem sortI_of {ys xs : List Int} (p : ys.Perm xs) (h : ys.Pairwise (· ≤ ·)) : ys = sortI xs := risI_unique h (sortI_ris xs) (p.trans (sortI_perm xs).symm)

/-! ### flat data -/
def flatD : Dat → Bool
  | .non => true
  | .bl _ => true
  | .int _ => true
  | .str _ => true
  | _ => false
def toV : Dat → V
  | .bl b => .bl b
  | .int i => .int i
  | .str x => .str x
  | _ => .non
theorem Den.flat {K : PySem.W.Frag} {H : Hp} {d : Dat} {v : V} (f : flatD d = true) (h : Den K H d v) : v = toV d := by
  cases d with
  | non => exact h
  | bl b => exact h
  | int i => exact h
  | str x => exact h.1
  | _ => exact absurd (show false = true from f) Bool.false_ne_true
theorem flatV_toV {d : Dat} (f : flatD d = true) : flatV (toV d) = true := by
  cases d with
  | non => rfl
  | bl b => rfl
  | int i => rfl
  | str x => rfl
  | _ => exact absurd (show false = true from f) Bool.false_ne_true
theorem DenL.flat {K : PySem.W.Frag} {H : Hp} : ∀ {ds : List Dat} {xs : List V}, ds.all flatD = true → DenL K H ds xs → xs = ds.map toV ∧ xs.all flatV = true
  | [], _, _, h => by cases h; exact ⟨rfl, rfl⟩
  | d :: ds, _, f, ⟨v, vs, e, h, r⟩ => by
    rw [List.all_cons, Bool.and_eq_true] at f
    obtain ⟨e1, e2⟩ := DenL.flat f.2 r
    have e3 := Den.flat f.1 h
    subst e
    refine ⟨by rw [List.map_cons, ← e3, ← e1], ?_⟩
    rw [List.all_cons, e2, e3, flatV_toV f.1]
    rfl
/-- == of flat data -/
def feq (d e : Dat) : Bool := eqV (toV d) (toV e)
theorem Seen.den {K : PySem.W.Frag} {F H : Hp} {d : Dat} {v : V} (f : flatD d = true) (h : Seen K F H d v) : Den K F d v := by
  cases d with
  | lst ds => exact absurd (show false = true from f) Bool.false_ne_true
  | _ => exact h

/-! ### deep == -/
mutual
def toPy : Dat → PyData
  | .non => .none
  | .bl b => .bool b
  | .int i => .int i
  | .str x => .str x
  | .tup ds => .tuple (toPys ds)
  | .lst ds => .list (toPys ds)
  | .dct _ => .dict []
  | .fn _ _ => .dict []
def toPys : List Dat → List PyData
  | [] => []
  | d :: ds => toPy d :: toPys ds
end
theorem canAll_cons {d : PyData} {ds : List PyData} (h : PyData.canLayAll0 (d :: ds) = true) : d.canLay0 = true ∧ PyData.canLayAll0 ds = true := by
  unfold PyData.canLayAll0 at h
  exact Bool.and_eq_true_iff.mp h
mutual
theorem Den.dp {K : PySem.W.Frag} {H : Hp} : ∀ (d : Dat) {v : V}, (toPy d).canLay0 = true → Den K H d v → Dp K H v (toPy d)
  | .non, _, _, h => by cases h; exact .non
  | .bl _, _, _, h => by cases h; exact .bl _
  | .int _, _, _, h => by cases h; exact .int _
  | .str _, _, _, h => by cases h.1; exact .str _
  | .tup ds, _, c, ⟨a, xs, e, q, l, r⟩ => by
    subst e
    exact .tup q (DenL.dp ds (by unfold toPy PyData.canLay0 at c; exact c) r)
  | .lst ds, _, c, ⟨a, xs, e, q, l, r⟩ => by
    subst e
    exact .lst q (DenL.dp ds (by unfold toPy PyData.canLay0 at c; exact c) r)
  | .dct _, _, _, h => h.elim
  | .fn _ _, _, _, h => h.elim
theorem DenL.dp {K : PySem.W.Frag} {H : Hp} : ∀ (ds : List Dat) {xs : List V}, PyData.canLayAll0 (toPys ds) = true → DenL K H ds xs → DpAll K H xs (toPys ds)
  | [], _, _, h => by cases h; exact .nil
  | d :: ds, _, c, ⟨v, vs, e, h, r⟩ => by
    subst e
    have c' := canAll_cons (d := toPy d) (ds := toPys ds) c
    exact .cons (Den.dp d c'.1 h) (DenL.dp ds c'.2 r)
end
/-- the whole datum in the heap itself -/
theorem Seen.full {K : PySem.W.Frag} {F H : Hp} (s : Same F H) {d : Dat} {v : V} (h : Seen K F H d v) : Den K H d v := by
  cases d with
  | lst ds =>
    obtain ⟨a, xs, e, q, l, r⟩ := h
    exact ⟨a, xs, e, q, l, DenL.mono s ds r⟩
  | _ => exact Den.mono s _ h

/-! ### the forms of the rules -/
def rD1 (K : PySem.W.Frag) (f : Dat → Option Out) : V → Hp → VK → Prop := fun x H Q => ∃ F d o, Same F H ∧ Seen K F H d x ∧ f d = some o ∧ ∀ v H', NewOk K F H v H' o → Q v H'
def rD2 (K : PySem.W.Frag) (f : Dat → Dat → Option Out) : R2 := fun x y H Q => ∃ F d e o, Same F H ∧ Seen K F H d x ∧ Seen K F H e y ∧ f d e = some o ∧ ∀ v H', NewOk K F H v H' o → Q v H'
/-- a call's form -/
def rC1 (K : PySem.W.Frag) (f : Dat → Option Out) : List V → Hp → VK → Prop := fun xs H Q => ∃ x, xs = [x] ∧ rD1 K f x H Q
def rC2 (K : PySem.W.Frag) (f : Dat → Dat → Option Out) : List V → Hp → VK → Prop := fun xs H Q => ∃ x y, xs = [x, y] ∧ rD2 K f x y H Q
def rM1 (K : PySem.W.Frag) (f : Dat → Dat → Option Out) : V → List V → Hp → VK → Prop := fun x xs H Q => ∃ y, xs = [y] ∧ rD2 K f x y H Q

section
variable {K : PySem.W.Frag} {F H : Hp}
theorem new_int (s : Same F H) (i : Int) : NewOk K F H (.int i) H (.val (.int i)) := NewOk.same s rfl
theorem new_bl (s : Same F H) (b : Bool) : NewOk K F H (.bl b) H (.val (.bl b)) := NewOk.same s rfl
theorem new_non (s : Same F H) : NewOk K F H .non H (.val .non) := NewOk.same s rfl
theorem new_str (s : Same F H) {x : Str} (h : x.length ≤ sizeLine) : NewOk K F H (.str x) H (.val (.str x)) := NewOk.same s ⟨rfl, h⟩
end

/-! ### + - * // % ** -/
def semAdd : Dat → Dat → Option Out
  | .int i, .int j => some (.val (.int (i + j)))
  | .str x, .str y => if x.length + y.length ≤ sizeLine then some (.val (.str (x ++ y))) else none
  | .lst a, .lst b => if a.length + b.length ≤ sizeLine then some (.fresh (.lst (a ++ b))) else none
  | .tup a, .tup b => if a.isEmpty = false ∧ a.length + b.length ≤ sizeLine then some (.val (.tup (a ++ b))) else none
  | _, _ => none
def semSub : Dat → Dat → Option Out
  | .int i, .int j => some (.val (.int (i - j)))
  | _, _ => none
/-- a text again and again -/
def repS (x : Str) (n : Nat) : Str := ⟨(List.replicate n x.cps.toList).flatten.toArray⟩
def semMul : Dat → Dat → Option Out
  | .int i, .int j => if (-(2 ^ 64) < i ∧ i < 2 ^ 64) ∨ (-(2 ^ 64) < j ∧ j < 2 ^ 64) then some (.val (.int (i * j))) else none
  | .str x, .int n => if -(2 ^ 63) ≤ n ∧ n < 2 ^ 63 ∧ x.length * n.toNat ≤ sizeLine then some (.val (.str (repS x n.toNat))) else none
  | _, _ => none
def semDiv : Dat → Dat → Option Out
  | .int i, .int j => if 0 < j ∧ j < 1073741824 then some (.val (.int (i / j))) else none
  | _, _ => none
def semMod : Dat → Dat → Option Out
  | .int i, .int j => if 0 < j then some (.val (.int (i % j))) else none
  | _, _ => none
def semPow : Dat → Dat → Option Out
  | .int i, .int j => if 0 ≤ j ∧ j ≤ 1000000 ∧ i.natAbs < 2 ^ 64 then some (.val (.int (i ^ j.toNat))) else none
  | _, _ => none

section
variable {X : Cx}
theorem ok_add : OpR X (binaryOp .Add) (rD2 X.K semAdd) := by
  intro pins s σ H x y v u Q I rx ry h
  obtain ⟨F, d, e, o, sm, hd, he, ho, q⟩ := h
  unfold semAdd at ho
  split at ho
  · cases ho
    have hd : x = .int _ := hd
    have he : y = .int _ := he
    exact op_add pins s σ H x y v u Q I rx ry ⟨_, _, hd, he, q _ _ (new_int sm _)⟩
  · rename_i x' y'
    have hd : x = .str x' ∧ _ := hd
    have he : y = .str y' ∧ _ := he
    split at ho
    · rename_i hl
      cases ho
      exact op_add_str pins s σ H x y v u Q I rx ry ⟨_, _, hd.1, he.1, hl, q _ _ (new_str sm (by rw [TL.len_tl, TL.tl_append, List.length_append, ← TL.len_tl, ← TL.len_tl]; exact hl))⟩
    · cases ho
  · rename_i a b
    split at ho
    · rename_i hl
      cases ho
      obtain ⟨l, xs, rfl, hx, _, rx'⟩ := hd
      obtain ⟨l2, zs, rfl, hz, _, rz⟩ := he
      cases rx
      cases ry
      obtain ⟨its, r, p1, z1⟩ := I.list hx
      obtain ⟨its2, r2, p2, z2⟩ := I.list hz
      have hl1 := r.length
      have hl2 := r2.length
      have l1 := DenL.length rx'
      have l2' := DenL.length rz
      obtain ⟨⟨oc, dd, dt, sl⟩, n1, ho1, hc1, hd1, hq1⟩ := p1
      obtain ⟨⟨oc2, dd2, dt2, sl2⟩, n2, ho2, hc2, hd2, hq2⟩ := p2
      simp only at hc1 hq1 hc2 hq2
      subst hc1 hq1 hc2 hq2
      refine concat_meets ⟨_, ho1, rfl⟩ ⟨_, ho2, rfl⟩ noFill_list_add seq_list_add PySem.F.slot_list_add PySem.F.entry_list_add (PySem.F.args_list_add_2 _ _) (list_addW l l2 its.toArray its2.toArray n1 n2 dd dd2 sl sl2 (by rw [List.size_toArray, List.size_toArray]; omega)) ⟨ho1, ho2, ?_⟩
      rw [show its.toArray ++ its2.toArray = (its ++ its2).toArray from by simp]
      exact ⟨.ref _, _, I.lnew (t' := s.toks) (r.append r2) (by rw [List.length_append]; omega), rfl, q _ _ (NewOk.lst sm I.fresh (by rw [List.length_append]; omega) (DenL.app rx' rz))⟩
    · cases ho
  · rename_i a b
    split at ho
    · rename_i hl
      cases ho
      obtain ⟨l, xs, rfl, hx, lx, rx'⟩ := hd
      obtain ⟨l2, zs, rfl, hz, lz, rz⟩ := he
      have l1 := DenL.length rx'
      have l2' := DenL.length rz
      refine op_catT pins s σ H _ _ v u Q I rx ry ⟨l, l2, xs, zs, rfl, rfl, Same.seqT sm hx, Same.seqT sm hz, fun z => ?_, by omega, fun z => ?_, fun z p hp => ?_⟩
      · subst z
        cases a with
        | nil => exact absurd hl.1 (by decide)
        | cons a1 a2 => simp at l1
      · subst z
        have eb : b = [] := List.eq_nil_of_length_eq_zero (by simpa using l2')
        subst eb
        rw [List.append_nil] at q
        exact q _ _ (NewOk.same sm ⟨l, xs, rfl, hx, lx, rx'⟩)
      · exact q _ _ (NewOk.tup sm hp (by rw [List.length_append]; omega) (DenL.app rx' rz))
    · cases ho
  · cases ho
theorem ok_sub : OpR X (binaryOp .Sub) (rD2 X.K semSub) := by
  intro pins s σ H x y v u Q I rx ry h
  obtain ⟨F, d, e, o, sm, hd, he, ho, q⟩ := h
  unfold semSub at ho
  split at ho
  · cases ho
    have hd : x = .int _ := hd
    have he : y = .int _ := he
    exact op_sub pins s σ H x y v u Q I rx ry ⟨_, _, hd, he, q _ _ (new_int sm _)⟩
  · cases ho
theorem repS_zero (x : Str) : repS x 0 = Str.empty := rfl
theorem repS_one (x : Str) : repS x 1 = x := by
  unfold repS
  simp
theorem foldl_cps : ∀ (n : Nat) (a : List Nat) (b : List Nat), (List.replicate n a.toArray).foldl (· ++ ·) b.toArray = (b ++ (List.replicate n a).flatten).toArray
  | 0, a, b => by simp
  | n + 1, a, b => by
    rw [List.replicate_succ, List.foldl_cons]
    have e : b.toArray ++ a.toArray = (b ++ a).toArray := by simp
    rw [e, foldl_cps n a (b ++ a), List.replicate_succ, List.flatten_cons, List.append_assoc]
theorem repS_eq (x : Str) (n : Nat) : (⟨(List.replicate n x.cps).foldl (· ++ ·) #[]⟩ : Str) = repS x n := by
  have h := foldl_cps n x.cps.toList []
  rw [List.nil_append] at h
  exact congrArg Str.mk h
theorem repS_len (x : Str) (n : Nat) : (repS x n).length = x.length * n := by
  show (List.replicate n x.cps.toList).flatten.toArray.size = _
  rw [List.size_toArray]
  induction n with
  | zero => simp
  | succ n ih =>
    rw [List.replicate_succ, List.flatten_cons, List.length_append, ih, Nat.mul_succ]
    show x.cps.toList.length + _ = _
    rw [Array.length_toList]
    show x.length + _ = _
    omega
theorem ok_mul : OpR X (binaryOp .Mult) (rD2 X.K semMul) := by
  intro pins s σ H x y v u Q I rx ry h
  obtain ⟨F, d, e, o, sm, hd, he, ho, q⟩ := h
  unfold semMul at ho
  split at ho
  · split at ho
    · rename_i hc
      cases ho
      have hd : x = .int _ := hd
      have he : y = .int _ := he
      exact op_mul pins s σ H x y v u Q I rx ry ⟨_, _, hd, he, hc, q _ _ (new_int sm _)⟩
    · cases ho
  · rename_i z n
    split at ho
    · rename_i hc
      cases ho
      have hd : x = .str z ∧ _ := hd
      have he : y = .int n := he
      obtain ⟨rfl, hz⟩ := hd
      subst he
      obtain ⟨t, rfl⟩ := rx
      obtain ⟨t', rfl⟩ := ry
      obtain ⟨c1, c2, c3⟩ := hc
      have hs : sizeLine = 16777216 := sizeLine_eq
      have fin : ∀ (w' : Value) (k : Nat), RelV (.str (repS z n.toNat)) w' → EP X pins σ Q w' { s with toks := k } := fun w' k r => ⟨.str (repS z n.toNat), H, I.tok _, r, q _ _ (new_str sm (by rw [repS_len]; exact c3))⟩
      refine PySem.P.mul_str (by simp; omega) (fun h1 h2 h3 => ?_) (fun _ _ => decide_eq_false (by omega)) ?_
      · have h1' : 1 ≤ n := by omega
        have hb : (z.length : Int) ≤ (2 ^ 63 - 1) / n := by
          apply (Int.le_ediv_iff_mul_le (by omega)).mpr
          have e1 : ((z.length * n.toNat : Nat) : Int) = (z.length : Int) * n := by
            rw [Int.natCast_mul]
            congr 1
            omega
          rw [← e1]
          omega
        omega
      · by_cases h1 : n < 1
        · rw [if_pos h1]
          have e0 : n.toNat = 0 := by omega
          rw [e0, repS_zero] at fin
          exact ⟨by show (0 : Nat) ≤ sizeLine; omega, fin _ _ ⟨_, rfl⟩⟩
        · rw [if_neg h1]
          by_cases h2 : (n == 1 || z.length == 0) = true
          · rw [if_pos h2]
            have ee : repS z n.toNat = z := by
              rw [Bool.or_eq_true] at h2
              rcases h2 with h2 | h2
              · have : n = 1 := by simpa using h2
                subst this
                exact repS_one z
              · have : z.length = 0 := by simpa using h2
                apply TL.ext_tl
                have ez : z.cps.toList = [] := List.eq_nil_of_length_eq_zero (by rw [Array.length_toList]; exact this)
                show (List.replicate n.toNat z.cps.toList).flatten.toArray.toList = z.cps.toList
                rw [ez]
                simp
            rw [ee] at fin
            exact fin _ _ ⟨_, rfl⟩
          · rw [if_neg h2, repS_eq]
            exact ⟨by rw [repS_len]; exact c3, fin _ _ ⟨_, rfl⟩⟩
    · cases ho
  · cases ho
theorem ok_div : OpR X (binaryOp .FloorDiv) (rD2 X.K semDiv) := by
  intro pins s σ H x y v u Q I rx ry h
  obtain ⟨F, d, e, o, sm, hd, he, ho, q⟩ := h
  unfold semDiv at ho
  split at ho
  · split at ho
    · rename_i hc
      cases ho
      exact op_fdiv pins s σ H x y v u Q I rx ry ⟨_, _, hd, he, hc, q _ _ (new_int sm _)⟩
    · cases ho
  · cases ho
theorem ok_mod : OpR X (binaryOp .Mod) (rD2 X.K semMod) := by
  intro pins s σ H x y v u Q I rx ry h
  obtain ⟨F, d, e, o, sm, hd, he, ho, q⟩ := h
  unfold semMod at ho
  split at ho
  · split at ho
    · rename_i hc
      cases ho
      exact op_mod pins s σ H x y v u Q I rx ry ⟨_, _, hd, he, hc, q _ _ (new_int sm _)⟩
    · cases ho
  · cases ho
theorem ok_pow : OpR X (binaryOp .Pow) (rD2 X.K semPow) := by
  intro pins s σ H x y v u Q I rx ry h
  obtain ⟨F, d, e, o, sm, hd, he, ho, q⟩ := h
  unfold semPow at ho
  split at ho
  · split at ho
    · rename_i hc
      cases ho
      exact op_pow pins s σ H x y v u Q I rx ry ⟨_, _, hd, he, hc, q _ _ (new_int sm _)⟩
    · cases ho
  · cases ho
end

/-! ### comparisons -/
/-- == where it is known -/
def eqD (d e : Dat) : Option Bool :=
  match d, e with
  | .int i, .int j => some (decide (i = j))
  | .str x, .str y => some (decide (x = y))
  | .bl x, .bl y => some (decide (x = y))
  | d, e => if SeqAt.shaped (toPy d) = true ∧ SeqAt.shaped (toPy e) = true then some (PyData.eqv (toPy d) (toPy e)) else none
def semEq (d e : Dat) : Option Out := (eqD d e).map fun b => .val (.bl b)
def semNe (d e : Dat) : Option Out := (eqD d e).map fun b => .val (.bl (!b))
def semLt : Dat → Dat → Option Out
  | .int i, .int j => some (.val (.bl (decide (i < j))))
  | .str x, .str y => some (.val (.bl (ltS x y)))
  | _, _ => none
def semLe : Dat → Dat → Option Out
  | .int i, .int j => some (.val (.bl (decide (i ≤ j))))
  | .str x, .str y => some (.val (.bl (!ltS y x)))
  | _, _ => none
def semGt (d e : Dat) : Option Out := semLt e d
def semGe (d e : Dat) : Option Out := semLe e d
def semIs : Dat → Dat → Option Out
  | .bl x, .bl y => some (.val (.bl (decide (x = y))))
  | .non, .non => some (.val (.bl true))
  | _, .non => some (.val (.bl false))
  | _, _ => none
def semIsNot : Dat → Dat → Option Out
  | .bl x, .bl y => some (.val (.bl (!decide (x = y))))
  | .non, .non => some (.val (.bl false))
  | _, .non => some (.val (.bl true))
  | _, _ => none
/-- c in s, texts -/
def inS (x y : Str) : Bool :=
  match x.cps.toList with
  | [c] => decide (c ∈ y.cps.toList)
  | _ => !(Builtin.Str.occurrences y x 0 y.length 1).isEmpty
def inD (d e : Dat) : Option Bool :=
  match d, e with
  | .str x, .str y => some (inS x y)
  | d, .lst es => if flatD d = true ∧ es.all flatD = true then some (es.any fun z => feq z d) else none
  | d, .tup es => if flatD d = true ∧ es.all flatD = true then some (es.any fun z => feq z d) else none
  | _, _ => none
def semIn (d e : Dat) : Option Out := (inD d e).map fun b => .val (.bl b)
def semNotIn (d e : Dat) : Option Out := (inD d e).map fun b => .val (.bl (!b))

theorem decVI (i j : Int) : decide (V.int i = V.int j) = decide (i = j) := by rw [dec_int, Bool.beq_eq_decide_eq]
theorem decVS (i j : Str) : decide (V.str i = V.str j) = decide (i = j) := by rw [dec_str, Bool.beq_eq_decide_eq]
theorem decVB (i j : Bool) : decide (V.bl i = V.bl j) = decide (i = j) := by rw [dec_bl, Bool.beq_eq_decide_eq]
section
variable {X : Cx}
theorem ok_eq (hu : X.A.units + 64 < cLine) : OpR X (compareOp .Eq) (rD2 X.K semEq) := by
  intro pins s σ H x y v u Q I rx ry h
  obtain ⟨F, d, e, o, sm, hd, he, ho, q⟩ := h
  unfold semEq at ho
  cases hb : eqD d e with
  | none => rw [hb] at ho; cases ho
  | some b =>
    rw [hb] at ho
    cases ho
    unfold eqD at hb
    split at hb
    · cases hb
      have hd : x = .int _ := hd
      have he : y = .int _ := he
      subst hd he
      refine op_eq pins s σ H _ _ v u Q I rx ry ⟨rfl, ?_⟩
      rw [decVI]
      exact q _ _ (new_bl sm _)
    · cases hb
      have hd : x = .str _ ∧ _ := hd
      have he : y = .str _ ∧ _ := he
      obtain ⟨rfl, _⟩ := hd
      obtain ⟨rfl, _⟩ := he
      refine op_eq pins s σ H _ _ v u Q I rx ry ⟨rfl, ?_⟩
      rw [decVS]
      exact q _ _ (new_bl sm _)
    · cases hb
      have hd : x = .bl _ := hd
      have he : y = .bl _ := he
      subst hd he
      refine op_eq pins s σ H _ _ v u Q I rx ry ⟨rfl, ?_⟩
      rw [decVB]
      exact q _ _ (new_bl sm _)
    · split at hb
      · rename_i hs
        cases hb
        exact op_eqD hu pins s σ H x y v u Q I rx ry ⟨_, _, Den.dp d (SeqAt.canLay_of_shaped hs.1) (Seen.full sm hd), Den.dp e (SeqAt.canLay_of_shaped hs.2) (Seen.full sm he), hs.1, hs.2, q _ _ (new_bl sm _)⟩
      · cases hb
theorem ok_ne (hu : X.A.units + 64 < cLine) : OpR X (compareOp .NotEq) (rD2 X.K semNe) := by
  intro pins s σ H x y v u Q I rx ry h
  obtain ⟨F, d, e, o, sm, hd, he, ho, q⟩ := h
  unfold semNe at ho
  cases hb : eqD d e with
  | none => rw [hb] at ho; cases ho
  | some b =>
    rw [hb] at ho
    cases ho
    unfold eqD at hb
    split at hb
    · cases hb
      have hd : x = .int _ := hd
      have he : y = .int _ := he
      subst hd he
      refine op_ne pins s σ H _ _ v u Q I rx ry ⟨rfl, ?_⟩
      rw [decVI]
      exact q _ _ (new_bl sm _)
    · cases hb
      have hd : x = .str _ ∧ _ := hd
      have he : y = .str _ ∧ _ := he
      obtain ⟨rfl, _⟩ := hd
      obtain ⟨rfl, _⟩ := he
      refine op_ne pins s σ H _ _ v u Q I rx ry ⟨rfl, ?_⟩
      rw [decVS]
      exact q _ _ (new_bl sm _)
    · cases hb
      have hd : x = .bl _ := hd
      have he : y = .bl _ := he
      subst hd he
      refine op_ne pins s σ H _ _ v u Q I rx ry ⟨rfl, ?_⟩
      rw [decVB]
      exact q _ _ (new_bl sm _)
    · split at hb
      · rename_i hs
        cases hb
        exact op_neD hu pins s σ H x y v u Q I rx ry ⟨_, _, Den.dp d (SeqAt.canLay_of_shaped hs.1) (Seen.full sm hd), Den.dp e (SeqAt.canLay_of_shaped hs.2) (Seen.full sm he), hs.1, hs.2, q _ _ (new_bl sm _)⟩
      · cases hb
theorem ok_lt : OpR X (compareOp .Lt) (rD2 X.K semLt) := by
  intro pins s σ H x y v u Q I rx ry h
  obtain ⟨F, d, e, o, sm, hd, he, ho, q⟩ := h
  unfold semLt at ho
  split at ho
  · cases ho
    exact op_lt pins s σ H x y v u Q I rx ry ⟨_, _, hd, he, q _ _ (new_bl sm _)⟩
  · cases ho
    refine op_lt_str pins s σ H x y v u Q I rx ry ⟨_, _, hd.1, he.1, ?_⟩
    rw [← ltCps_eq]
    exact q _ _ (new_bl sm _)
  · cases ho
theorem ok_gt : OpR X (compareOp .Gt) (rD2 X.K semGt) := by
  intro pins s σ H x y v u Q I rx ry h
  obtain ⟨F, d, e, o, sm, hd, he, ho, q⟩ := h
  unfold semGt semLt at ho
  split at ho
  · cases ho
    exact op_gt pins s σ H x y v u Q I rx ry ⟨_, _, hd, he, q _ _ (new_bl sm _)⟩
  · cases ho
    refine op_gt_str pins s σ H x y v u Q I rx ry ⟨_, _, hd.1, he.1, ?_⟩
    rw [← ltCps_eq]
    exact q _ _ (new_bl sm _)
  · cases ho
theorem ok_le : OpR X (compareOp .LtE) (rD2 X.K semLe) := by
  intro pins s σ H x y v u Q I rx ry h
  obtain ⟨F, d, e, o, sm, hd, he, ho, q⟩ := h
  unfold semLe at ho
  split at ho
  · cases ho
    exact op_le pins s σ H x y v u Q I rx ry ⟨_, _, hd, he, q _ _ (new_bl sm _)⟩
  · cases ho
    refine op_le_str pins s σ H x y v u Q I rx ry ⟨_, _, hd.1, he.1, ?_⟩
    rw [← ltCps_eq]
    exact q _ _ (new_bl sm _)
  · cases ho
theorem ok_ge : OpR X (compareOp .GtE) (rD2 X.K semGe) := by
  intro pins s σ H x y v u Q I rx ry h
  obtain ⟨F, d, e, o, sm, hd, he, ho, q⟩ := h
  unfold semGe semLe at ho
  split at ho
  · cases ho
    exact op_ge pins s σ H x y v u Q I rx ry ⟨_, _, hd, he, q _ _ (new_bl sm _)⟩
  · cases ho
    refine op_ge_str pins s σ H x y v u Q I rx ry ⟨_, _, hd.1, he.1, ?_⟩
    rw [← ltCps_eq]
    exact q _ _ (new_bl sm _)
  · cases ho
theorem Seen.notNon {K : PySem.W.Frag} {F H : Hp} {d : Dat} {v : V} (h : Seen K F H d v) (n : d ≠ .non) : v ≠ .non := by
  cases d with
  | non => exact absurd rfl n
  | bl b => intro e; rw [show v = _ from h] at e; cases e
  | int b => intro e; rw [show v = _ from h] at e; cases e
  | str b => intro e; rw [h.1] at e; cases e
  | tup ds => obtain ⟨a, xs, e', _⟩ := h; intro e; rw [e'] at e; cases e
  | lst ds => obtain ⟨a, xs, e', _⟩ := h; intro e; rw [e'] at e; cases e
  | dct ds => exact h.elim
  | fn c ds => exact h.elim
theorem ok_is : OpR X (compareOp .Is) (rD2 X.K semIs) := by
  intro pins s σ H x y v u Q I rx ry h
  obtain ⟨F, d, e, o, sm, hd, he, ho, q⟩ := h
  unfold semIs at ho
  split at ho
  · cases ho
    exact op_isBl pins s σ H x y v u Q I rx ry ⟨_, _, hd, he, q _ _ (new_bl sm _)⟩
  · cases ho
    refine op_isN pins s σ H x y v u Q I rx ry ⟨he, ?_⟩
    rw [decide_eq_true (show x = .non from hd)]
    exact q _ _ (new_bl sm _)
  · rename_i hn
    cases ho
    refine op_isN pins s σ H x y v u Q I rx ry ⟨he, ?_⟩
    rw [decide_eq_false (Seen.notNon hd hn)]
    exact q _ _ (new_bl sm _)
  · cases ho
theorem ok_isNot : OpR X (compareOp .IsNot) (rD2 X.K semIsNot) := by
  intro pins s σ H x y v u Q I rx ry h
  obtain ⟨F, d, e, o, sm, hd, he, ho, q⟩ := h
  unfold semIsNot at ho
  split at ho
  · cases ho
    exact op_notBl pins s σ H x y v u Q I rx ry ⟨_, _, hd, he, q _ _ (new_bl sm _)⟩
  · cases ho
    refine op_notN pins s σ H x y v u Q I rx ry ⟨he, ?_⟩
    rw [decide_eq_true (show x = .non from hd)]
    exact q _ _ (new_bl sm _)
  · rename_i hn
    cases ho
    refine op_notN pins s σ H x y v u Q I rx ry ⟨he, ?_⟩
    rw [decide_eq_false (Seen.notNon hd hn)]
    exact q _ _ (new_bl sm _)
  · cases ho
theorem any_feq {d : Dat} : ∀ es : List Dat, (es.map toV).any (fun y => eqV y (toV d)) = es.any fun z => feq z d
  | [] => rfl
  | e :: es => by rw [List.map_cons, List.any_cons, List.any_cons, any_feq es]; rfl
theorem one_sign {x : Str} {c : Nat} (h : x.cps.toList = [c]) : x = ⟨#[c]⟩ := TL.ext_tl h
theorem ok_in : OpR X (compareOp .In) (rD2 X.K semIn) := by
  intro pins s σ H x y v u Q I rx ry h
  obtain ⟨F, d, e, o, sm, hd, he, ho, q⟩ := h
  unfold semIn at ho
  cases hb : inD d e with
  | none => rw [hb] at ho; cases ho
  | some b =>
    rw [hb] at ho
    cases ho
    unfold inD at hb
    split at hb
    · rename_i x' y'
      cases hb
      have hd : x = .str x' ∧ _ := hd
      have he : y = .str y' ∧ _ := he
      unfold inS at q
      split at q
      · rename_i c hc
        exact op_in_sign pins s σ H x y v u Q I rx ry ⟨c, y', by rw [hd.1, one_sign hc], he.1, q _ _ (new_bl sm _)⟩
      · exact op_in_str pins s σ H x y v u Q I rx ry ⟨_, _, hd.1, he.1, q _ _ (new_bl sm _)⟩
    · rename_i es
      split at hb
      · rename_i hf
        cases hb
        obtain ⟨a, xs, rfl, hx, lx, r⟩ := he
        have ed := Den.flat hf.1 (Seen.den hf.1 hd)
        obtain ⟨e1, e2⟩ := DenL.flat hf.2 r
        refine op_in_seq pins s σ H _ _ v u Q I rx ry ⟨a, xs, rfl, .inl hx, by rw [ed]; exact flatV_toV hf.1, e2, ?_⟩
        rw [show inV x xs = es.any fun z => feq z d from by unfold inV; rw [e1, ed, any_feq]]
        exact q _ _ (new_bl sm _)
      · cases hb
    · rename_i es
      split at hb
      · rename_i hf
        cases hb
        obtain ⟨a, xs, rfl, hx, lx, r⟩ := he
        have ed := Den.flat hf.1 (Seen.den hf.1 hd)
        obtain ⟨e1, e2⟩ := DenL.flat hf.2 r
        refine op_in_seq pins s σ H _ _ v u Q I rx ry ⟨a, xs, rfl, .inr (Same.seqT sm hx), by rw [ed]; exact flatV_toV hf.1, e2, ?_⟩
        rw [show inV x xs = es.any fun z => feq z d from by unfold inV; rw [e1, ed, any_feq]]
        exact q _ _ (new_bl sm _)
      · cases hb
    · cases hb
theorem ok_notIn : OpR X (compareOp .NotIn) (rD2 X.K semNotIn) := by
  intro pins s σ H x y v u Q I rx ry h
  obtain ⟨F, d, e, o, sm, hd, he, ho, q⟩ := h
  unfold semNotIn at ho
  cases hb : inD d e with
  | none => rw [hb] at ho; cases ho
  | some b =>
    rw [hb] at ho
    cases ho
    unfold inD at hb
    split at hb
    · rename_i x' y'
      cases hb
      have hd : x = .str x' ∧ _ := hd
      have he : y = .str y' ∧ _ := he
      unfold inS at q
      split at q
      · rename_i c hc
        exact op_notIn_sign pins s σ H x y v u Q I rx ry ⟨c, y', by rw [hd.1, one_sign hc], he.1, q _ _ (new_bl sm _)⟩
      · exact op_notin_str pins s σ H x y v u Q I rx ry ⟨_, _, hd.1, he.1, q _ _ (new_bl sm _)⟩
    · rename_i es
      split at hb
      · rename_i hf
        cases hb
        obtain ⟨a, xs, rfl, hx, lx, r⟩ := he
        have ed := Den.flat hf.1 (Seen.den hf.1 hd)
        obtain ⟨e1, e2⟩ := DenL.flat hf.2 r
        refine op_notIn_seq pins s σ H _ _ v u Q I rx ry ⟨a, xs, rfl, .inl hx, by rw [ed]; exact flatV_toV hf.1, e2, ?_⟩
        rw [show inV x xs = es.any fun z => feq z d from by unfold inV; rw [e1, ed, any_feq]]
        exact q _ _ (new_bl sm _)
      · cases hb
    · rename_i es
      split at hb
      · rename_i hf
        cases hb
        obtain ⟨a, xs, rfl, hx, lx, r⟩ := he
        have ed := Den.flat hf.1 (Seen.den hf.1 hd)
        obtain ⟨e1, e2⟩ := DenL.flat hf.2 r
        refine op_notIn_seq pins s σ H _ _ v u Q I rx ry ⟨a, xs, rfl, .inr (Same.seqT sm hx), by rw [ed]; exact flatV_toV hf.1, e2, ?_⟩
        rw [show inV x xs = es.any fun z => feq z d from by unfold inV; rw [e1, ed, any_feq]]
        exact q _ _ (new_bl sm _)
      · cases hb
    · cases hb
end

/-! ### xs[i], xs[a:b] -/
def semAt : Dat → Dat → Option Out
  | .lst ds, .int i => (atI ds i).map .val
  | .tup ds, .int i => (atI ds i).map .val
  | .str x, .int i => (atI x.cps.toList i).map fun c => .val (.str ⟨#[c]⟩)
  | _, _ => none
def cutL {α : Type} (xs : List α) (lo hi : Option Int) : List α := (xs.drop (HT.sIx xs.length 0 lo)).take (HT.sIx xs.length xs.length hi - HT.sIx xs.length 0 lo)
def semCut (d : Dat) (lo hi : Option Int) : Option Out :=
  match d with
  | .lst ds => some (.fresh (.lst (cutL ds lo hi)))
  | .str x => some (.val (.str (cutS x lo hi)))
  | .tup ds => if HT.sIx ds.length 0 lo = 0 ∧ HT.sIx ds.length ds.length hi = ds.length then none else some (.val (.tup (cutL ds lo hi)))
  | _ => none
def semRev : Dat → Option Out
  | .lst ds => some (.fresh (.lst ds.reverse))
  | _ => none
theorem DenL.cut {K : PySem.W.Frag} {H : Hp} {ds : List Dat} {xs : List V} (h : DenL K H ds xs) (lo hi : Option Int) : DenL K H (cutL ds lo hi) (cutV xs lo hi) := by
  unfold cutL cutV
  rw [h.length]
  exact DenL.take _ (DenL.drop _ h)
theorem atI_len {α β : Type} {xs : List α} {ys : List β} (h : xs.length = ys.length) (i : Int) : (ixN xs.length i) = ixN ys.length i := by rw [h]
theorem DenL.at {K : PySem.W.Frag} {H : Hp} {ds : List Dat} {xs : List V} {i : Int} {d : Dat} (h : DenL K H ds xs) (e : atI ds i = some d) : ∃ x, atI xs i = some x ∧ Den K H d x := by
  unfold atI at e ⊢
  rw [← h.length]
  cases hq : ixN ds.length i with
  | none => rw [hq] at e; cases e
  | some j =>
    rw [hq] at e
    obtain ⟨x, hx, q⟩ := DenL.getD h (show ds[j]? = some d from e)
    exact ⟨x, hx, q⟩
section
variable {X : Cx}
theorem ok_at : IxR X (rD2 X.K semAt) := by
  intro value slice pins s σ H x y v u Q I rx ry h hs
  obtain ⟨F, d, e, o, sm, hd, he, ho, q⟩ := h
  unfold semAt at ho
  split at ho
  · rename_i ds i
    cases ha : atI ds i with
    | none => rw [ha] at ho; cases ho
    | some z =>
      rw [ha] at ho
      cases ho
      obtain ⟨a, xs, rfl, hx, lx, r⟩ := hd
      obtain ⟨w, hw, dw⟩ := DenL.at r ha
      exact ix_list value slice pins s σ H _ _ v u Q I rx ry ⟨a, xs, i, w, rfl, he, hx, hw, q _ _ (NewOk.same sm dw)⟩ hs
  · rename_i ds i
    cases ha : atI ds i with
    | none => rw [ha] at ho; cases ho
    | some z =>
      rw [ha] at ho
      cases ho
      obtain ⟨a, xs, rfl, hx, lx, r⟩ := hd
      obtain ⟨w, hw, dw⟩ := DenL.at r ha
      exact ix_tup value slice pins s σ H _ _ v u Q I rx ry ⟨a, xs, i, w, rfl, he, Same.seqT sm hx, hw, q _ _ (NewOk.same sm dw)⟩ hs
  · rename_i z i
    cases ha : atI z.cps.toList i with
    | none => rw [ha] at ho; cases ho
    | some c =>
      rw [ha] at ho
      cases ho
      exact ix_str value slice pins s σ H _ _ v u Q I rx ry ⟨z, i, c, hd.1, he, hd.2, ha, q _ _ (new_str sm (by show (1 : Nat) ≤ sizeLine; decide))⟩ hs
  · cases ho
def rCut (K : PySem.W.Frag) : V → Option Int → Option Int → Hp → VK → Prop := fun x lo hi H Q => ∃ F d o, Same F H ∧ Seen K F H d x ∧ semCut d lo hi = some o ∧ ∀ v H', NewOk K F H v H' o → Q v H'
theorem ok_cut : SlR X (rCut X.K) := by
  intro pins s σ H x v vl vu lo hi sl Q I rx hs pl pu h
  obtain ⟨F, d, o, sm, hd, ho, q⟩ := h
  unfold semCut at ho
  split at ho
  · cases ho
    obtain ⟨a, xs, rfl, hx, lx, r⟩ := hd
    exact sl_list pins s σ H _ v vl vu lo hi sl Q I rx hs pl pu ⟨a, xs, rfl, hx, fun p hp => q _ _ (NewOk.lst sm hp (Nat.le_trans (cutV_length xs lo hi) lx) (DenL.cut r lo hi))⟩
  · cases ho
    exact sl_str pins s σ H _ v vl vu lo hi sl Q I rx hs pl pu ⟨_, hd.1, hd.2, q _ _ (new_str sm (Nat.le_trans (cutS_length _ lo hi) hd.2))⟩
  · split at ho
    · cases ho
    · rename_i hn
      cases ho
      obtain ⟨a, xs, rfl, hx, lx, r⟩ := hd
      exact sl_tup pins s σ H _ v vl vu lo hi sl Q I rx hs pl pu ⟨a, xs, rfl, Same.seqT sm hx, by rw [← DenL.length r]; exact hn, fun p hp => q _ _ (NewOk.tup sm hp (Nat.le_trans (cutV_length xs lo hi) lx) (DenL.cut r lo hi))⟩
  · cases ho
end

/-! ### calls of built-ins with one argument -/
def semLen : Dat → Option Out
  | .lst ds => some (.val (.int ds.length))
  | .tup ds => some (.val (.int ds.length))
  | .str x => some (.val (.int x.length))
  | _ => none
def semInt : Dat → Option Out
  | .int i => some (.val (.int i))
  | .bl b => some (.val (.int (if b then 1 else 0)))
  | _ => none
/-- the signs of a text -/
def signs (x : Str) : List Str := x.cps.toList.map fun c => ⟨#[c]⟩
def semList : Dat → Option Out
  | .lst ds => some (.fresh (.lst ds))
  | .tup ds => some (.fresh (.lst ds))
  | .str x => some (.fresh (.lst ((signs x).map .str)))
  | _ => none
def semTuple : Dat → Option Out
  | .lst ds => some (.val (.tup ds))
  | .tup ds => some (.val (.tup ds))
  | _ => none
def strsOf : List Dat → Option (List Str)
  | [] => some []
  | .str x :: r => (strsOf r).map (x :: ·)
  | _ => none
def intsOf : List Dat → Option (List Int)
  | [] => some []
  | .int x :: r => (intsOf r).map (x :: ·)
  | _ => none
theorem strsOf_map : ∀ xs : List Str, strsOf (xs.map .str) = some xs
  | [] => rfl
  | x :: r => by show (strsOf (r.map .str)).map (x :: ·) = _; rw [strsOf_map r]; rfl
theorem intsOf_map : ∀ xs : List Int, intsOf (xs.map .int) = some xs
  | [] => rfl
  | x :: r => by show (intsOf (r.map .int)).map (x :: ·) = _; rw [intsOf_map r]; rfl
theorem strsOf_eq : ∀ {ds : List Dat} {xs : List Str}, strsOf ds = some xs → ds = xs.map .str
  | [], xs, h => by cases h; rfl
  | .str x :: r, xs, h => by
    unfold strsOf at h
    cases q : strsOf r with
    | none => rw [q] at h; cases h
    | some ys => rw [q] at h; cases h; rw [strsOf_eq q]; rfl
  | .non :: r, xs, h => by cases h
  | .bl _ :: r, xs, h => by cases h
  | .int _ :: r, xs, h => by cases h
  | .tup _ :: r, xs, h => by cases h
  | .lst _ :: r, xs, h => by cases h
  | .dct _ :: r, xs, h => by cases h
  | .fn _ _ :: r, xs, h => by cases h
theorem intsOf_eq : ∀ {ds : List Dat} {xs : List Int}, intsOf ds = some xs → ds = xs.map .int
  | [], xs, h => by cases h; rfl
  | .int x :: r, xs, h => by
    unfold intsOf at h
    cases q : intsOf r with
    | none => rw [q] at h; cases h
    | some ys => rw [q] at h; cases h; rw [intsOf_eq q]; rfl
  | .non :: r, xs, h => by cases h
  | .bl _ :: r, xs, h => by cases h
  | .str _ :: r, xs, h => by cases h
  | .tup _ :: r, xs, h => by cases h
  | .lst _ :: r, xs, h => by cases h
  | .dct _ :: r, xs, h => by cases h
  | .fn _ _ :: r, xs, h => by cases h
/-- sorted(list of texts), below 64 -/
def semSorted : Dat → Option Out
  | .lst ds => match strsOf ds with
    | some xs => if xs.length < 64 then some (.fresh (.lst ((sortS xs).map .str))) else none
    | none => none
  | _ => none
/-- the built-in class of a datum -/
def tyD : Dat → String
  | .non => "NoneType"
  | .bl _ => "bool"
  | .int _ => "int"
  | .str _ => "str"
  | .tup _ => "tuple"
  | .lst _ => "list"
  | .dct _ => "dict"
  | .fn _ _ => "function"
def semIsi (t : String) (d : Dat) : Option Out := (kitB (tyD d) t).map fun b => .val (.bl b)
section
variable {X : Cx}
theorem ok_len : CallR X (.builtin "len") (rC1 X.K semLen) := by
  intro pins s σ H xs us Q I r h
  obtain ⟨x, rfl, F, d, o, sm, hd, ho, q⟩ := h
  unfold semLen at ho
  split at ho
  · cases ho
    obtain ⟨a, ys, rfl, hx, lx, r'⟩ := hd
    refine call_len_seq pins s σ H _ us Q I r ⟨a, ys, rfl, .inl hx, ?_⟩
    rw [← DenL.length r']
    exact q _ _ (new_int sm _)
  · cases ho
    obtain ⟨a, ys, rfl, hx, lx, r'⟩ := hd
    refine call_len_seq pins s σ H _ us Q I r ⟨a, ys, rfl, .inr (Same.seqT sm hx), ?_⟩
    rw [← DenL.length r']
    exact q _ _ (new_int sm _)
  · cases ho
    have hd : x = .str _ ∧ _ := hd
    exact call_len_str pins s σ H _ us Q I r ⟨_, by rw [hd.1], hd.2, q _ _ (new_int sm _)⟩
  · cases ho
theorem ok_int : CallR X (.type "int") (rC1 X.K semInt) := by
  intro pins s σ H xs us Q I r h
  obtain ⟨x, rfl, F, d, o, sm, hd, ho, q⟩ := h
  unfold semInt at ho
  split at ho
  · cases ho
    exact call_int1 pins s σ H _ us Q I r (.inl ⟨_, by rw [show x = _ from hd], q _ _ (new_int sm _)⟩)
  · cases ho
    exact call_int1 pins s σ H _ us Q I r (.inr ⟨_, by rw [show x = _ from hd], q _ _ (new_int sm _)⟩)
  · cases ho
theorem sign_vals {x : Str} {acc : Array Value} (h : ItemsOf (SignAt x) acc x.cps.size) : Vals ((signs x).map V.str) acc.toList := by
  have e : (signs x).map V.str = (List.range acc.toList.length).map fun j => V.str ⟨#[x.cps.toList.getD j 0]⟩ := by
    have hl : acc.toList.length = x.cps.toList.length := by rw [Array.length_toList, Array.length_toList]; exact h.1
    rw [hl]
    unfold signs
    rw [List.map_map]
    refine List.ext_getElem? fun i => ?_
    rw [List.getElem?_map, List.getElem?_map]
    by_cases hi : i < x.cps.toList.length
    · rw [List.getElem?_range hi, List.getElem?_eq_getElem hi]
      rw [Option.map_some, Option.map_some, Function.comp_apply, List.getD_eq_getElem?_getD, List.getElem?_eq_getElem hi]
      rfl
    · rw [List.getElem?_eq_none (by omega), List.getElem?_eq_none (by rw [List.length_range]; omega)]
      rfl
  rw [e]
  refine vals_of_get acc.toList _ fun j u hu => ?_
  have hu' : acc[j]? = some u := by rw [← Array.getElem?_toList]; exact hu
  have hj : j < x.cps.size := by
    have := (Array.getElem?_eq_some_iff.mp hu').1
    rw [← h.1]
    exact this
  have := h.2 j u hu'
  obtain ⟨c, t, hc, ht⟩ := this
  refine ⟨t, ?_⟩
  rw [ht]
  have e2 : x.cps.toList.getD j 0 = c := by
    rw [List.getD_eq_getElem?_getD, Array.getElem?_toList, hc]
    rfl
  rw [e2]
theorem ok_list (hc : X.calm = true) : CallR X (.type "list") (rC1 X.K semList) := by
  intro pins s σ H xs us Q I r h
  obtain ⟨x, rfl, F, d, o, sm, hd, ho, q⟩ := h
  unfold semList at ho
  split at ho
  · cases ho
    obtain ⟨a, ys, rfl, hx, lx, r'⟩ := hd
    exact call_list_of pins s σ H _ us Q I r ⟨a, ys, rfl, .inl hx, fun p hp => q _ _ (NewOk.lst sm hp lx r')⟩
  · cases ho
    obtain ⟨a, ys, rfl, hx, lx, r'⟩ := hd
    exact call_list_of pins s σ H _ us Q I r ⟨a, ys, rfl, .inr (Same.seqT sm hx), fun p hp => q _ _ (NewOk.lst sm hp lx r')⟩
  · rename_i z
    cases ho
    have hd : x = .str z ∧ _ := hd
    obtain ⟨rfl, hz⟩ := hd
    obtain ⟨u, rfl, ru⟩ := vals1 r
    obtain ⟨t, rfl⟩ := ru
    have hl : ((signs z).map V.str).length ≤ sizeLine := by
      unfold signs
      rw [List.length_map, List.length_map, Array.length_toList]
      exact hz
    refine call_list_str (I.ok.hd hc) z t (fun h' tk acc' c' kp e hi => ?_) hz
    have I1 : Inv X pins σ (upd H s.heap.objs.size (.lst ((signs z).map V.str))) { s with heap := h', toks := tk } := I.laid kp (Nat.le_refl _) ⟨hl, acc'.toList, c', sign_vals hi, by simpa using e⟩
    refine ⟨.ref s.heap.objs.size, _, I1, rfl, q _ _ (NewOk.lst sm I.fresh hl (DenL.of_strs (signs z) fun n hn => ?_))⟩
    unfold signs at hn
    obtain ⟨c, _, rfl⟩ := List.mem_map.mp hn
    show (1 : Nat) ≤ sizeLine
    decide
  · cases ho
theorem ok_tuple : CallR X (.type "tuple") (rC1 X.K semTuple) := by
  intro pins s σ H xs us Q I r h
  obtain ⟨x, rfl, F, d, o, sm, hd, ho, q⟩ := h
  unfold semTuple at ho
  split at ho
  · cases ho
    obtain ⟨a, ys, rfl, hx, lx, r'⟩ := hd
    exact call_tuple_of pins s σ H _ us Q I r ⟨a, ys, rfl, .inl ⟨hx, fun p hp => q _ _ (NewOk.tup sm hp lx r')⟩⟩
  · cases ho
    obtain ⟨a, ys, rfl, hx, lx, r'⟩ := hd
    exact call_tuple_of pins s σ H _ us Q I r ⟨a, ys, rfl, .inr ⟨Same.seqT sm hx, q _ _ (NewOk.same sm ⟨a, ys, rfl, hx, lx, r'⟩)⟩⟩
  · cases ho
theorem ok_sorted : CallR X (.builtin "sorted") (rC1 X.K semSorted) := by
  intro pins s σ H xs us Q I r h
  obtain ⟨x, rfl, F, d, o, sm, hd, ho, q⟩ := h
  unfold semSorted at ho
  split at ho
  · split at ho
    · rename_i ds _ ys hs
      split at ho
      · rename_i hl
        cases ho
        have e := strsOf_eq hs
        subst e
        obtain ⟨a, vs, rfl, hx, lx, r'⟩ := hd
        obtain ⟨e1, e2⟩ := DenL.strs r'
        subst e1
        refine cr_sortedS pins s σ H _ us Q I r ⟨a, ys, rfl, hx, hl, fun zs p pm so hp => ?_⟩
        have ez := sortS_of pm so
        subst ez
        exact q _ _ (NewOk.lst sm hp (by rw [List.length_map, (sortS_perm ys).length_eq]; rw [List.length_map] at lx; exact lx) (DenL.of_strs _ fun n hn => e2 n ((sortS_perm ys).mem_iff.mp hn)))
      · cases ho
    · cases ho
  · cases ho
theorem Seen.tyx {F H : Hp} {K : PySem.W.Frag} (sm : Same F H) {d : Dat} {x : V} (h : Seen K F H d x) : TyX K H x (.type (tyD d)) := by
  cases d with
  | non => rw [show x = _ from h]; exact .base .non
  | bl b => rw [show x = _ from h]; exact .base (.bl b)
  | int i => rw [show x = _ from h]; exact .base (.int i)
  | str z => rw [h.1]; exact .base (.str z)
  | tup ds =>
    obtain ⟨a, ys, rfl, hx, lx, r'⟩ := h
    rcases Same.seqT sm hx with (hx | ⟨ob, hx⟩) | ⟨ob, its, n, hk, hc, _⟩
    · exact .base (.tup hx)
    · exact .fTuple hx
    · exact .kTuple hk hc
  | lst ds =>
    obtain ⟨a, ys, rfl, hx, lx, r'⟩ := h
    rcases hx with (hx | ⟨ob, hx⟩) | ⟨ob, its, n, hk, hc, _⟩
    · exact .base (.lst hx)
    · exact .base (.frz hx)
    · exact .kList hk hc
  | dct ds => exact h.elim
  | fn c ds => exact h.elim
/-- isinstance(x, T), T a built-in class -/
theorem ok_isi (t : String) : CallR X (.builtin "isinstance") (fun xs H Q => ∃ x, xs = [x, .ty t] ∧ rD1 X.K (semIsi t) x H Q) := by
  intro pins s σ H xs us Q I r h
  obtain ⟨x, rfl, F, d, o, sm, hd, ho, q⟩ := h
  unfold semIsi at ho
  cases hb : kitB (tyD d) t with
  | none => rw [hb] at ho; cases ho
  | some b =>
    rw [hb] at ho
    cases ho
    exact call_isi pins s σ H _ us Q I r ⟨x, .ty t, _, _, b, rfl, .ty t, Seen.tyx sm hd, kit_ty hb, q _ _ (new_bl sm _)⟩
end

/-! ### methods of texts -/
def semIndex : Dat → Dat → Option Out
  | .str x, .str y => (Txt.index0 x y).map fun k => .val (.int (k : Nat))
  | _, _ => none
def semJoin : Dat → Dat → Option Out
  | .str a, .lst ds => match strsOf ds with
    | some ys => if (ys.map (·.length)).sum + ys.length * a.length ≤ sizeLine then some (.val (.str (Txt.join a ys))) else none
    | none => none
  | _, _ => none
theorem joinL_len (s : List Nat) : ∀ ps : List (List Nat), (TL.joinL s ps).length ≤ (ps.map (·.length)).sum + ps.length * s.length
  | [] => by simp [TL.joinL]
  | [p] => by simp [TL.joinL]
  | p :: q :: r => by
    have ih := joinL_len s (q :: r)
    show (p ++ (s ++ TL.joinL s (q :: r))).length ≤ _
    rw [List.length_append, List.length_append, List.map_cons, List.sum_cons, List.length_cons, Nat.succ_mul]
    omega
theorem join_len (a : Str) (ys : List Str) : (Txt.join a ys).length ≤ (ys.map (·.length)).sum + ys.length * a.length := by
  rw [TL.len_tl, TL.join_eq, TL.tl_join]
  have h := joinL_len (TL.tl a) (ys.map TL.tl)
  rw [List.length_map, List.map_map] at h
  have e : ys.map ((fun x => x.length) ∘ TL.tl) = ys.map (·.length) := List.map_congr_left fun y _ => (TL.len_tl y).symm
  rw [e, ← TL.len_tl a] at h
  exact h
section
variable {X : Cx}
theorem ok_index : MtR X "str.index" (rM1 X.K semIndex) := by
  intro pins s σ H x xs v us Q I rx rs h
  obtain ⟨y, rfl, F, d, e, o, sm, hd, he, ho, q⟩ := h
  unfold semIndex at ho
  split at ho
  · rename_i x' y'
    cases hk : Txt.index0 x' y' with
    | none => rw [hk] at ho; cases ho
    | some k =>
      rw [hk] at ho
      cases ho
      have hd : x = .str x' ∧ _ := hd
      have he : y = .str y' ∧ _ := he
      obtain ⟨rfl, _⟩ := hd
      obtain ⟨rfl, _⟩ := he
      obtain ⟨u, rfl, ru⟩ := vals1 rs
      obtain ⟨t, rfl⟩ := rx
      obtain ⟨t', rfl⟩ := ru
      unfold Txt.index0 at hk
      cases ho2 : Builtin.Str.occurrences x' y' 0 x'.length 1 with
      | nil => rw [ho2] at hk; cases hk
      | cons k' rest =>
        rw [ho2] at hk
        cases hk
        exact PySem.SC.index ho2 ⟨.int (k : Nat), H, I.tok _, ⟨_, rfl⟩, q _ _ (new_int sm _)⟩
  · cases ho
theorem ok_join : MtR X "str.join" (rM1 X.K semJoin) := by
  intro pins s σ H x xs v us Q I rx rs h
  obtain ⟨y, rfl, F, d, e, o, sm, hd, he, ho, q⟩ := h
  unfold semJoin at ho
  split at ho
  · rename_i a ds
    split at ho
    · rename_i ys hs
      split at ho
      · rename_i hl
        cases ho
        have hd : x = .str a ∧ _ := hd
        have ed := strsOf_eq hs
        subst ed
        obtain ⟨p, vs, rfl, hx, lx, r'⟩ := he
        obtain ⟨e1, e2⟩ := DenL.strs r'
        subst e1
        have hsz : sizeLine = 16777216 := sizeLine_eq
        exact mt_join pins s σ H x _ v us Q I rx rs ⟨a, p, ys, hd.1, rfl, .inl hx, by omega, q _ _ (new_str sm (Nat.le_trans (join_len a ys) hl))⟩
      · cases ho
    · cases ho
  · cases ho
end
end Dl

/-! D3: a small language of plain data, how it runs, and which text it stands for. -/
namespace Dl
open PySem PySem.Spec PyProof.Rows L2

inductive K1 where
  | len | int | list | tuple | sorted | neg | isi (t : String)
inductive K2 where
  | add | sub | mul | div | mod | pow | eq | ne | lt | le | gt | ge | is | isNot | isIn | notIn | at | index | join
  deriving DecidableEq

def semNeg : Dat → Option Out
  | .int i => some (.val (.int (-i)))
  | _ => none
def sem1 : K1 → Dat → Option Out
  | .len => semLen
  | .int => semInt
  | .list => semList
  | .tuple => semTuple
  | .sorted => semSorted
  | .neg => semNeg
  | .isi t => semIsi t
def sem2 : K2 → Dat → Dat → Option Out
  | .add => semAdd
  | .sub => semSub
  | .mul => semMul
  | .div => semDiv
  | .mod => semMod
  | .pow => semPow
  | .eq => semEq
  | .ne => semNe
  | .lt => semLt
  | .le => semLe
  | .gt => semGt
  | .ge => semGe
  | .is => semIs
  | .isNot => semIsNot
  | .isIn => semIn
  | .notIn => semNotIn
  | .at => semAt
  | .index => semIndex
  | .join => semJoin
def isStr : Dat → Bool
  | .str _ => true
  | _ => false
def isLst : Dat → Bool
  | .lst _ => true
  | _ => false
/-- a method's receiver, known ahead of its arguments -/
def pre2 : K2 → Dat → Bool
  | .index, d => isStr d
  | .join, d => isStr d
  | _, _ => true

/-- a target: a name, or names of a tuple's items -/
inductive Tg where
  | name (i : Nat) | tup (is : List Nat)

mutual
inductive E where
  | var (i : Nat)
  | non | bl (b : Bool) | int (n : Int) | str (x : Str)
  | tup (es : Es) | lst (es : Es)
  | op1 (k : K1) (a : E) | op2 (k : K2) (a b : E)
  | cut (a : E) (lo hi : Oe) | rev (a : E)
  | and (a b : E) | or (a b : E) | not (a : E)
  | ite (t : T) (a b : E)
  | call (f : Str) (es : Es)
  | pop (i : Nat) (a : E)
  | app (i : Nat) (a : E)
  | comp (own : List Nat) (tg : Tg) (src : Src) (c : Ot) (elt : E)
inductive Es where
  | nil | cons (e : E) (es : Es)
inductive Oe where
  | no | yes (e : E)
inductive Ot where
  | no | yes (t : T)
inductive T where
  | val (e : E) | cmp (k : K2) (a b : E) | not (t : T) | and (a b : T) | or (a b : T)
inductive Src where
  | seq (e : E) | rng1 (a : E) | rng2 (a b : E)
end

mutual
inductive S where
  | expr (e : E) | set (i : Nat) (e : E) | unp (is : List Nat) (e : E) | setAt (i : Nat) (ix e : E) | aug (i : Nat) (k : K2) (e : E)
  | ife (t : T) (a b : Ss) | for_ (tg : Tg) (src : Src) (body : Ss) (wp : List Nat) | whl (t : T) (body : Ss) (wp : List Nat)
  | ret (e : E) | retN | pass | brk | cont
inductive Ss where
  | nil | cons (s : S) (ss : Ss)
end

/-- the defs that may be called: what they give (and leave in the list that they may change), and which parameter that is -/
structure Wd where
  phi : Str → List Dat → Option (Out × Dat)
  io : Str → Option (Option Nat)

def truthD : Dat → Option Bool
  | .non => some false
  | .bl b => some b
  | .int i => some (i != 0)
  | .str x => some ((x.length : Int) != 0)
  | .tup ds => some (!ds.isEmpty)
  | .lst ds => some (!ds.isEmpty)
  | _ => none

def wipeR (r : Rho) : List Nat → Rho
  | [] => r
  | i :: is => (wipeR r is).set i none
/-- behind a comprehension: its own slots as they were ahead of it, where they were settled -/
def back (r₁ : Rho) (r : Rho) : List Nat → Rho
  | [] => r
  | i :: is => (back r₁ r is).set i (match look r₁ i with | some ⟨d, .fz⟩ => some ⟨d, .fz⟩ | _ => none)
def putAll (r : Rho) : List Nat → List Dat → Option Rho
  | [], [] => some r
  | i :: is, d :: ds => putAll (r.set i (some ⟨d, .fz⟩)) is ds
  | _, _ => none
def bindT (r : Rho) : Tg → Dat → Option Rho
  | .name i, d => some (r.set i (some ⟨d, .fz⟩))
  | .tup is, .tup ds => putAll r is ds
  | _, _ => none
/-- what is walked of a datum -/
def items : Dat → Option (List Dat)
  | .lst ds => some ds
  | .tup ds => some ds
  | .str x => some ((signs x).map .str)
  | _ => none
def rangeD (lo : Int) (n : Nat) : List Dat := (List.range n).map fun k => .int (lo + (k : Nat))
/-- may this be handed over to be changed -/
def lend (r : Rho) : Out → Option Out
  | .fresh d => some (.fresh d)
  | .place i => match look r i with
    | some ⟨_, .fz⟩ => none
    | some _ => some (.place i)
    | none => none
  | .val _ => none
def resAll (r : Rho) : List Out → Option (List Dat)
  | [] => some []
  | o :: os => do
    let d ← res r o
    let ds ← resAll r os
    some (d :: ds)
/-- the changed list comes back -/
def giveBack (r : Rho) : Option Nat → List Out → Dat → Option Rho
  | none, _, _ => some r
  | some k, os, d => match os[k]? with
    | some (.place i) => match look r i with
      | some ⟨_, .own⟩ => some (r.set i (some ⟨d, .own⟩))
      | some ⟨_, .io⟩ => some (r.set i (some ⟨d, .io⟩))
      | _ => none
    | some (.fresh _) => some r
    | _ => none
/-- the items of a comprehension -/
def compD (f : Dat → Rho → Option (Option Dat × Rho)) : List Dat → Rho → Option (List Dat × Rho)
  | [], r => some ([], r)
  | d :: ds, r => do
    let (x, r) ← f d r
    let (xs, r) ← compD f ds r
    some ((match x with | some x => x :: xs | none => xs), r)

mutual
def run (W : Wd) : E → Rho → Option (Out × Rho)
  | .var i, r => do
    let _ ← look r i
    some (.place i, r)
  | .non, r => some (.val .non, r)
  | .bl b, r => some (.val (.bl b), r)
  | .int n, r => some (.val (.int n), r)
  | .str x, r => some (.val (.str x), r)
  | .tup es, r => do
    let (ds, r) ← runL W es r
    some (.val (.tup ds), r)
  | .lst es, r => do
    let (ds, r) ← runL W es r
    some (.fresh (.lst ds), r)
  | .op1 k a, r => do
    let (o, r) ← run W a r
    let d ← res r o
    let o ← sem1 k d
    some (o, r)
  | .op2 k a b, r => do
    let (o, r) ← run W a r
    let d1 ← res r o
    if pre2 k d1 = true then
      let (o2, r) ← run W b r
      let d ← res r o
      let e ← res r o2
      let o ← sem2 k d e
      some (o, r)
    else none
  | .cut a lo hi, r => do
    let (o, r) ← run W a r
    let (l, r) ← runO W lo r
    let (h, r) ← runO W hi r
    let d ← res r o
    let o ← semCut d l h
    some (o, r)
  | .rev a, r => do
    let (o, r) ← run W a r
    let d ← res r o
    let o ← semRev d
    some (o, r)
  | .and a b, r => do
    let (o, r) ← run W a r
    let (d, r) ← frz r o
    let t ← truthD d
    if t = true then run W b r else some (.val d, r)
  | .or a b, r => do
    let (o, r) ← run W a r
    let (d, r) ← frz r o
    let t ← truthD d
    if t = true then some (.val d, r) else run W b r
  | .not a, r => do
    let (o, r) ← run W a r
    let d ← res r o
    let t ← truthD d
    some (.val (.bl (!t)), r)
  | .ite t a b, r => do
    let (c, r) ← runT W t r
    if c = true then run W a r else run W b r
  | .call f es, r => do
    let io ← W.io f
    let (os, r) ← runA W es io r
    let ds ← resAll r os
    let (o, d) ← W.phi f ds
    let r ← giveBack r io os d
    some (o, r)
  | .pop i a, r => do
    let s ← look r i
    if isLst s.d = true then
      let (o, r) ← run W a r
      let d ← res r o
      match look r i, d with
      | some ⟨.lst ds, .own⟩, .int k => do
        let j ← ixN ds.length k
        let x ← ds[j]?
        some (.val x, r.set i (some ⟨.lst (ds.eraseIdx j), .own⟩))
      | some ⟨.lst ds, .io⟩, .int k => do
        let j ← ixN ds.length k
        let x ← ds[j]?
        some (.val x, r.set i (some ⟨.lst (ds.eraseIdx j), .io⟩))
      | _, _ => none
    else none
  | .app i a, r => do
    let s ← look r i
    if isLst s.d = true then
      let (o, r) ← run W a r
      let (x, r) ← frz r o
      match look r i with
      | some ⟨.lst ds, .own⟩ => if ds.length < sizeLine then some (.val .non, r.set i (some ⟨.lst (ds ++ [x]), .own⟩)) else none
      | some ⟨.lst ds, .io⟩ => if ds.length < sizeLine then some (.val .non, r.set i (some ⟨.lst (ds ++ [x]), .io⟩)) else none
      | _ => none
    else none
  | .comp own tg src c elt, r => do
    let (ds, r₁) ← runI W src r
    let (xs, r₂) ← compD (fun d r => do
      let r ← bindT r tg d
      let (t, r) ← runOt W c r
      if t = true then
        let (o, r) ← run W elt r
        let (x, r) ← frz r o
        some (some x, wipeR r own)
      else some (none, wipeR r own)) ds (wipeR r₁ own)
    some (.fresh (.lst xs), back r₁ r₂ own)
def runL (W : Wd) : Es → Rho → Option (List Dat × Rho)
  | .nil, r => some ([], r)
  | .cons e es, r => do
    let (o, r) ← run W e r
    let (d, r) ← frz r o
    let (ds, r) ← runL W es r
    some (d :: ds, r)
def runA (W : Wd) : Es → Option Nat → Rho → Option (List Out × Rho)
  | .nil, _, r => some ([], r)
  | .cons e es, some 0, r => do
    let (o, r) ← run W e r
    let o ← lend r o
    let (os, r) ← runA W es none r
    some (o :: os, r)
  | .cons e es, some (k + 1), r => do
    let (o, r) ← run W e r
    let (d, r) ← frz r o
    let (os, r) ← runA W es (some k) r
    some (.val d :: os, r)
  | .cons e es, none, r => do
    let (o, r) ← run W e r
    let (d, r) ← frz r o
    let (os, r) ← runA W es none r
    some (.val d :: os, r)
def runO (W : Wd) : Oe → Rho → Option (Option Int × Rho)
  | .no, r => some (none, r)
  | .yes e, r => do
    let (o, r) ← run W e r
    match res r o with
    | some (.int i) => some (some i, r)
    | _ => none
def runOt (W : Wd) : Ot → Rho → Option (Bool × Rho)
  | .no, r => some (true, r)
  | .yes t, r => runT W t r
def runT (W : Wd) : T → Rho → Option (Bool × Rho)
  | .val e, r => do
    let (o, r) ← run W e r
    let d ← res r o
    let t ← truthD d
    some (t, r)
  | .cmp k a b, r => do
    let (o, r) ← run W a r
    let (o2, r) ← run W b r
    let d ← res r o
    let e ← res r o2
    match sem2 k d e with
    | some (.val (.bl t)) => some (t, r)
    | _ => none
  | .not t, r => do
    let (c, r) ← runT W t r
    some (!c, r)
  | .and a b, r => do
    let (c, r) ← runT W a r
    if c = true then runT W b r else some (false, r)
  | .or a b, r => do
    let (c, r) ← runT W a r
    if c = true then some (true, r) else runT W b r
def runI (W : Wd) : Src → Rho → Option (List Dat × Rho)
  | .seq e, r => do
    let (o, r) ← run W e r
    let (d, r) ← frz r o
    let ds ← items d
    some (ds, r)
  | .rng1 a, r => do
    let (o, r) ← run W a r
    match res r o with
    | some (.int n) => if -(2 ^ 62) ≤ n ∧ n.toNat ≤ sizeLine then some (rangeD 0 n.toNat, r) else none
    | _ => none
  | .rng2 a b, r => do
    let (o, r) ← run W a r
    let (o2, r) ← run W b r
    match res r o, res r o2 with
    | some (.int i), some (.int j) => if -(2 ^ 62) ≤ i ∧ i < 2 ^ 62 ∧ -(2 ^ 62) ≤ j ∧ j < 2 ^ 62 ∧ (j - i).toNat ≤ sizeLine then some (rangeD i (j - i).toNat, r) else none
    | _, _ => none
end

/-- how a statement ends -/
inductive Fl where
  | next (r : Rho) | ret (o : Out) (r : Rho) | brk (r : Rho) | cont (r : Rho)
def forD (f : Dat → Rho → Option Fl) (wp : List Nat) : List Dat → Rho → Option Fl
  | [], r => some (.next r)
  | d :: ds, r => match f d r with
    | some (.next r) => forD f wp ds (wipeR r wp)
    | some (.cont r) => forD f wp ds (wipeR r wp)
    | some (.brk r) => some (.next (wipeR r wp))
    | some (.ret o r) => some (.ret o r)
    | none => none
def whlD (c : Rho → Option (Bool × Rho)) (b : Rho → Option Fl) (wp : List Nat) : Nat → Rho → Option Fl
  | 0, _ => none
  | n + 1, r => match c r with
    | some (true, r) => match b r with
      | some (.next r) => whlD c b wp n (wipeR r wp)
      | some (.cont r) => whlD c b wp n (wipeR r wp)
      | some (.brk r) => some (.next (wipeR r wp))
      | some (.ret o r) => some (.ret o r)
      | none => none
    | some (false, r) => some (.next (wipeR r wp))
    | none => none
/-- a slot takes what an expression gave -/
def store (r : Rho) (i : Nat) : Out → Option Rho
  | .val d => some (r.set i (some ⟨d, .fz⟩))
  | .fresh d => some (r.set i (some ⟨d, .own⟩))
  | .place j => do
    let (d, r) ← frz r (.place j)
    some (r.set i (some ⟨d, .fz⟩))
mutual
def runS (W : Wd) (n : Nat) : S → Rho → Option Fl
  | .expr e, r => do
    let (_, r) ← run W e r
    some (.next r)
  | .set i e, r => do
    let (o, r) ← run W e r
    let r ← store r i o
    some (.next r)
  | .unp is e, r => do
    let (o, r) ← run W e r
    let (d, r) ← frz r o
    match d with
    | .tup ds => do
      let r ← putAll r is ds
      some (.next r)
    | _ => none
  | .setAt i ix e, r => do
    let (o, r) ← run W e r
    let (x, r) ← frz r o
    let _ ← look r i
    let (o2, r) ← run W ix r
    match look r i, res r o2 with
    | some ⟨.lst ds, .own⟩, some (.int k) => do
      let j ← ixN ds.length k
      some (.next (r.set i (some ⟨.lst (ds.set j x), .own⟩)))
    | some ⟨.lst ds, .io⟩, some (.int k) => do
      let j ← ixN ds.length k
      some (.next (r.set i (some ⟨.lst (ds.set j x), .io⟩)))
    | _, _ => none
  | .aug i k e, r => do
    let _ ← look r i
    let (o, r) ← run W e r
    match look r i, res r o with
    | some ⟨.int x, .fz⟩, some (.int y) => match k with
      | .add => some (.next (r.set i (some ⟨.int (x + y), .fz⟩)))
      | .sub => some (.next (r.set i (some ⟨.int (x - y), .fz⟩)))
      | _ => none
    | some ⟨.str x, .fz⟩, some (.str y) => match k with
      | .add => if x.length + y.length ≤ sizeLine then some (.next (r.set i (some ⟨.str (x ++ y), .fz⟩))) else none
      | _ => none
    | _, _ => none
  | .ife t a b, r => do
    let (c, r) ← runT W t r
    if c = true then runB W n a r else runB W n b r
  | .for_ tg src body wp, r => do
    let (ds, r) ← runI W src r
    forD (fun d r => do
      let r ← bindT r tg d
      runB W n body r) wp ds (wipeR r wp)
  | .whl t body wp, r => whlD (runT W t) (runB W n body) wp n (wipeR r wp)
  | .ret e, r => do
    let (o, r) ← run W e r
    some (.ret o r)
  | .retN, r => some (.ret (.val .non) r)
  | .pass, r => some (.next r)
  | .brk, r => some (.brk r)
  | .cont, r => some (.cont r)
def runB (W : Wd) (n : Nat) : Ss → Rho → Option Fl
  | .nil, r => some (.next r)
  | .cons s ss, r => match runS W n s r with
    | some (.next r) => runB W n ss r
    | x => x
end

/-- a def: its names, how many of them are parameters, which one it may change, its body -/
structure Df where
  N : List Str
  ps : Nat
  io : Option Nat
  body : Ss
def startR (D : Df) (ds : List Dat) : Rho :=
  ds.mapIdx (fun i d => some ⟨d, if D.io = some i then .io else .fz⟩) ++ List.replicate (D.N.length - ds.length) none
/-- what a def leaves in the list that it may change -/
def leftR (D : Df) (r : Rho) : Option Dat :=
  match D.io with
  | none => some .non
  | some i => match look r i with
    | some ⟨d, .io⟩ => some d
    | _ => none
/-- a def's run -/
def runD (W : Wd) (n : Nat) (D : Df) (ds : List Dat) : Option (Out × Dat) :=
  if ds.length = D.ps then
    match runB W n D.body (startR D ds) with
    | some (.next r) => do
      let d ← leftR D r
      some (.val .non, d)
    | some (.ret (.val x) r) => do
      let d ← leftR D r
      some (.val x, d)
    | some (.ret (.fresh x) r) => do
      let d ← leftR D r
      some (.fresh x, d)
    | some (.ret (.place j) r) => match look r j with
      | some ⟨x, .fz⟩ => do
        let d ← leftR D r
        some (.val x, d)
      | some ⟨x, .own⟩ => do
        let d ← leftR D r
        some (.fresh x, d)
      | _ => none
    | _ => none
  else none
/-- a text's defs, called to the depth k -/
def Phi (T : List (Str × Df)) (n : Nat) : Nat → Wd
  | 0 => ⟨fun _ _ => none, fun f => (T.lookup f).map (·.io)⟩
  | k + 1 => ⟨fun f ds => match T.lookup f with | some D => runD (Phi T n k) n D ds | none => none, fun f => (T.lookup f).map (·.io)⟩
end Dl

/-! D4: the readings of the small language, and how they fit the layer's own. -/
namespace Dl
open PySem PySem.Spec PyProof.Rows L2

theorem bindS {α β : Type} {x : Option α} {f : α → Option β} {b : β} (h : x.bind f = some b) : ∃ a, x = some a ∧ f a = some b := Option.bind_eq_some_iff.mp h

theorem PE.imp {X : Cx} {e : Expr} {t t' : TE} (h : PE X e t) (i : ∀ σ H Q, t' σ H Q → t σ H Q) : PE X e t' := ⟨fun pins s σ H Q I q => h.run pins s σ H Q I (i σ H Q q)⟩
theorem PT.imp {X : Cx} {e : Expr} {t t' : TT} (h : PT X e t) (i : ∀ σ H Q, t' σ H Q → t σ H Q) : PT X e t' := ⟨fun pins s σ H Q I q => h.run pins s σ H Q I (i σ H Q q)⟩
theorem PA.imp {X : Cx} {e : List Expr} {t t' : TA} (h : PA X e t) (i : ∀ σ H Q, t' σ H Q → t σ H Q) : PA X e t' := ⟨fun pos pins s σ H Q I q => h.run pos pins s σ H Q I (i σ H Q q)⟩
theorem PS.imp {X : Cx} {e : Stmt} {t t' : TS} (h : PS X e t) (i : ∀ D σ H, t' D σ H → t D σ H) : PS X e t' := ⟨fun pins s σ H D I q => h.run pins s σ H D I (i D σ H q)⟩
theorem PSs.imp {X : Cx} {e : List Stmt} {t t' : TS} (h : PSs X e t) (i : ∀ D σ H, t' D σ H → t D σ H) : PSs X e t' := ⟨fun pins s σ H D I q => h.run pins s σ H D I (i D σ H q)⟩

/-! ### a thing that stays while something else is reckoned -/
def Fr.guard (A : Fr) (a : Addr) (o : HO) : Fr := { A with H0 := upd A.H0 a o }
section
variable {A : Fr} {r : Rho} {F H : Hp} {σ : L2.St} {a : Addr} {o : HO}
theorem Fit.guard (h : Fit A r F σ H) (ho : H a = some o) (hf : F a = none) (hi : ¬ A.io a) (hm : ¬ Mine r σ a) : Fit (A.guard a o) r F σ H := by
  refine ⟨h.sub, fun b u e x => ?_, fun b u e => ?_, h.f0, h.ioh, fun i s e => ?_, h.sep, h.pro, h.len⟩
  · have e : upd A.H0 a o b = some u := e
    by_cases hb : b = a
    · subst hb
      rw [upd_same] at e
      cases e
      exact ho
    · rw [upd_ne hb] at e
      exact h.keep b u e x
  · rcases h.newf b u e with q | q
    · exact .inl q
    · refine .inr ?_
      show upd A.H0 a o b = none
      by_cases hb : b = a
      · subst hb
        rw [hf] at e
        cases e
      · rw [upd_ne hb]
        exact q
  · obtain ⟨v, e1, e2⟩ := h.slot i s e
    refine ⟨v, e1, ?_⟩
    unfold SlotOk at e2 ⊢
    split
    · rename_i z
      rw [z] at e2
      exact e2
    · rename_i z
      rw [z] at e2
      obtain ⟨b, rfl, h1, h2, h3, h4⟩ := e2
      refine ⟨b, rfl, h1, ?_, h3, h4⟩
      show upd A.H0 a o b = none
      rw [upd_ne (fun w => hm ⟨i, s, e, by rw [z]; decide, by rw [e1, w]⟩)]
      exact h2
    · rename_i z
      rw [z] at e2
      exact e2
theorem Fit.unguard (h : Fit (A.guard a o) r F σ H) (h0 : A.H0 a = none) (hf0 : A.F0 a = none) (hi : ¬ A.io a) : Fit A r F σ H ∧ H a = some o ∧ F a = none ∧ ¬ Mine r σ a := by
  have g : (A.guard a o).H0 a = some o := upd_same
  have gn : ∀ {b}, b ≠ a → (A.guard a o).H0 b = A.H0 b := fun {b} hb => upd_ne hb
  have fa : F a = none := by
    cases q : F a with
    | none => rfl
    | some u =>
      rcases h.newf a u q with z | z
      · rw [show (A.guard a o).F0 a = A.F0 a from rfl, hf0] at z
        cases z
      · rw [g] at z
        cases z
  refine ⟨⟨h.sub, fun b u e x => h.keep b u (by rw [gn (fun w => by rw [w, h0] at e; cases e)]; exact e) x, fun b u e => ?_, h.f0, h.ioh, fun i s e => ?_, h.sep, h.pro, h.len⟩, h.keep a o g hi, fa, fun m => ?_⟩
  · have hb : b ≠ a := fun w => by rw [w, fa] at e; cases e
    rcases h.newf b u e with z | z
    · exact .inl z
    · rw [gn hb] at z
      exact .inr z
  · obtain ⟨v, e1, e2⟩ := h.slot i s e
    refine ⟨v, e1, ?_⟩
    unfold SlotOk at e2 ⊢
    split
    · rename_i z
      rw [z] at e2
      exact e2
    · rename_i z
      rw [z] at e2
      obtain ⟨b, rfl, h1, h2, h3, h4⟩ := e2
      have hb : b ≠ a := fun w => by rw [w, g] at h2; cases h2
      exact ⟨b, rfl, h1, by rw [← gn hb]; exact h2, h3, h4⟩
    · rename_i z
      rw [z] at e2
      exact e2
  · obtain ⟨h1, h2, _⟩ := h.mine m
    rcases h2 with ⟨z, _⟩ | z
    · rw [g] at z
      cases z
    · exact hi z
/-- other slots' values: what r knows is as it was -/
theorem Fit.moved (h : Fit A r F σ H) {r' : Rho} {σ' : L2.St} (hl : r'.length = σ'.length) (hs : ∀ (i : Nat) (s : Sl), r'[i]? = some (some s) → r[i]? = some (some s) ∧ σ'[i]? = σ[i]?) (hp : ∀ p ∈ A.pro, σ'[p.1]? = some (some p.2)) : Fit A r' F σ' H := by
  refine ⟨h.sub, h.keep, h.newf, h.f0, h.ioh, fun i s e => ?_, fun i j s t b n e1 m1 e2 m2 s1 => ?_, hp, hl⟩
  · obtain ⟨q1, q2⟩ := hs i s e
    obtain ⟨v, e1, e2⟩ := h.slot i s q1
    exact ⟨v, q2.trans e1, e2⟩
  · obtain ⟨q1, q2⟩ := hs i s e1
    obtain ⟨q3, q4⟩ := hs j t e2
    rw [q2] at s1
    rw [q4]
    exact h.sep i j s t b n q1 m1 q3 m2 s1
end

/-! ### the readings -/
structure Ok (K : PySem.W.Frag) (pro : List Nat) (A : Fr) : Prop where
  k : A.K = K
  p : ∀ p ∈ A.pro, p.1 ∈ pro
theorem Ok.guard {K : PySem.W.Frag} {pro : List Nat} {A : Fr} (h : Ok K pro A) (a : Addr) (o : HO) : Ok K pro (A.guard a o) := ⟨h.k, h.p⟩

section
variable (K : PySem.W.Frag) (pro : List Nat)
def rdE (m : Rho → Option (Out × Rho)) : TE := fun σ H Q => ∃ A r F o r', Ok K pro A ∧ Fit A r F σ H ∧ m r = some (o, r') ∧ ∀ v F' H', Same F F' → Fit A r' F' σ H' → OutOk A r' F' σ H' o v → Q v H'
def rdL (m : Rho → Option (List Dat × Rho)) : TA := fun σ H Q => ∃ A r F ds r', Ok K pro A ∧ Fit A r F σ H ∧ m r = some (ds, r') ∧ ∀ vs F' H', Same F F' → Fit A r' F' σ H' → DenL A.K F' ds vs → Q vs H'
def rdT (m : Rho → Option (Bool × Rho)) : TT := fun σ H Q => ∃ A r F b r', Ok K pro A ∧ Fit A r F σ H ∧ m r = some (b, r') ∧ ∀ F' H', Same F F' → Fit A r' F' σ H' → Q b H'
def rdO (m : Rho → Option (Option Int × Rho)) : TO := fun σ H Q => ∃ A r F b r', Ok K pro A ∧ Fit A r F σ H ∧ m r = some (b, r') ∧ ∀ F' H', Same F F' → Fit A r' F' σ H' → Q b H'
/-- arguments: settled, or one that is lent -/
def OutsOk (A : Fr) (r : Rho) (F : Hp) (σ : L2.St) (H : Hp) : List Out → List V → Prop
  | [], vs => vs = []
  | o :: os, vs => ∃ v ws, vs = v :: ws ∧ OutOk A r F σ H o v ∧ OutsOk A r F σ H os ws
def rdA (m : Rho → Option (List Out × Rho)) : TA := fun σ H Q => ∃ A r F os r', Ok K pro A ∧ Fit A r F σ H ∧ m r = some (os, r') ∧ ∀ vs F' H', Same F F' → Fit A r' F' σ H' → OutsOk A r' F' σ H' os vs → Q vs H'
/-- what a statement reaches -/
def FlOk (A : Fr) (F : Hp) (D : Ends) : Fl → Prop
  | .next r' => ∀ σ' F' H', Same F F' → Fit A r' F' σ' H' → D.nx σ' H'
  | .brk r' => ∀ σ' F' H', Same F F' → Fit A r' F' σ' H' → D.bk σ' H'
  | .cont r' => ∀ σ' F' H', Same F F' → Fit A r' F' σ' H' → D.ct σ' H'
  | .ret o r' => ∀ v σ' F' H', Same F F' → Fit A r' F' σ' H' → OutOk A r' F' σ' H' o v → D.rt v H'
def rdS (m : Rho → Option Fl) : TS := fun D σ H => ∃ A r F fl, Ok K pro A ∧ Fit A r F σ H ∧ m r = some fl ∧ FlOk A F D fl
end

section
variable {K : PySem.W.Frag} {pro : List Nat} {W : Wd}
/-- two operands and an operation upon them -/
theorem imp_op2 {k : K2} {a b : E} {σ : L2.St} {H : Hp} {Q : VK} (h : rdE K pro (run W (.op2 k a b)) σ H Q) :
    tOp (rD2 K (sem2 k)) (rdE K pro (run W a)) (rdE K pro (run W b)) σ H Q := by
  obtain ⟨A, r, F, o, _, ok, fit, hm, q⟩ := h
  unfold run at hm
  obtain ⟨⟨oa, r1⟩, ha, hm⟩ := bindS hm
  obtain ⟨d1, hd1, hm⟩ := bindS hm
  dsimp only at hm
  split at hm
  · obtain ⟨⟨ob, r2⟩, hb, hm⟩ := bindS hm
    obtain ⟨d, hd, hm⟩ := bindS hm
    obtain ⟨e, he, hm⟩ := bindS hm
    obtain ⟨o3, ho, hm⟩ := bindS hm
    cases hm
    refine ⟨A, r, F, oa, _, ok, fit, ha, fun v1 F1 H1 s1 f1 k1 => ?_⟩
    obtain ⟨F1', s1', f1', h1⟩ := f1.hold k1
    refine ⟨A, r1, F1', ob, _, ok, f1', hb, fun v2 F2 H2 s2 f2 k2 => ?_⟩
    obtain ⟨F2', s2', f2', h2⟩ := f2.hold k2
    have g1 := Held.seen f2' (h1.mono (s2.trans s2')) hd
    have g2 := Held.seen f2' h2 he
    rw [ok.k] at g1 g2
    refine ⟨F2', d, e, _, f2'.sub, g1, g2, ho, fun v H' nw => ?_⟩
    rw [← ok.k] at nw
    obtain ⟨F3, s3, f3, k3⟩ := f2'.made nw
    exact q v F3 H' (((s1.trans s1').trans (s2.trans s2')).trans s3) f3 k3
  · cases hm
/-- a method of a text, one argument -/
theorem imp_meth {k : K2} {a b : E} {σ : L2.St} {H : Hp} {Q : VK} (hp : ∀ d, pre2 k d = isStr d) (h : rdE K pro (run W (.op2 k a b)) σ H Q) :
    tBM K "str" (rM1 K (sem2 k)) (rdE K pro (run W a)) (tCons (rdE K pro (run W b)) tNil) σ H Q := by
  obtain ⟨A, r, F, o, _, ok, fit, hm, q⟩ := h
  unfold run at hm
  obtain ⟨⟨oa, r1⟩, ha, hm⟩ := bindS hm
  obtain ⟨d1, hd1, hm⟩ := bindS hm
  dsimp only at hm
  split at hm
  · rename_i hpre
    rw [hp] at hpre
    obtain ⟨⟨ob, r2⟩, hb, hm⟩ := bindS hm
    obtain ⟨d, hd, hm⟩ := bindS hm
    obtain ⟨e, he, hm⟩ := bindS hm
    obtain ⟨o3, ho, hm⟩ := bindS hm
    cases hm
    refine ⟨A, r, F, oa, _, ok, fit, ha, fun v1 F1 H1 s1 f1 k1 => ?_⟩
    obtain ⟨F1', s1', f1', h1⟩ := f1.hold k1
    have hs : tyV K "str" v1 H1 := by
      have g := Held.seen f1' h1 hd1
      cases d1 with
      | str z => rw [g.1]; exact rfl
      | _ => exact absurd (show false = true from hpre) Bool.false_ne_true
    refine ⟨hs, A, r1, F1', ob, r2, ok, f1', hb, fun v2 F2 H2 s2 f2 k2 => ?_⟩
    obtain ⟨F2', s2', f2', h2⟩ := f2.hold k2
    have g1 := Held.seen f2' (h1.mono (s2.trans s2')) hd
    have g2 := Held.seen f2' h2 he
    rw [ok.k] at g1 g2
    refine ⟨v2, rfl, F2', d, e, _, f2'.sub, g1, g2, ho, fun v H' nw => ?_⟩
    rw [← ok.k] at nw
    obtain ⟨F3, s3, f3, k3⟩ := f2'.made nw
    exact q v F3 H' (((s1.trans s1').trans (s2.trans s2')).trans s3) f3 k3
  · cases hm
/-- one operand -/
theorem imp_op1 {k : K1} {a : E} {σ : L2.St} {H : Hp} {Q : VK} (h : rdE K pro (run W (.op1 k a)) σ H Q) :
    rdE K pro (run W a) σ H fun x H1 => rD1 K (sem1 k) x H1 Q := by
  obtain ⟨A, r, F, o, _, ok, fit, hm, q⟩ := h
  unfold run at hm
  obtain ⟨⟨oa, r1⟩, ha, hm⟩ := bindS hm
  obtain ⟨d, hd, hm⟩ := bindS hm
  obtain ⟨o3, ho, hm⟩ := bindS hm
  cases hm
  refine ⟨A, r, F, oa, _, ok, fit, ha, fun v1 F1 H1 s1 f1 k1 => ?_⟩
  obtain ⟨F1', s1', f1', h1⟩ := f1.hold k1
  have g1 := Held.seen f1' h1 hd
  rw [ok.k] at g1
  refine ⟨F1', d, _, f1'.sub, g1, ho, fun v H' nw => ?_⟩
  rw [← ok.k] at nw
  obtain ⟨F3, s3, f3, k3⟩ := f1'.made nw
  exact q v F3 H' ((s1.trans s1').trans s3) f3 k3
theorem imp_call1 {k : K1} {a : E} {σ : L2.St} {H : Hp} {Q : VK} (h : rdE K pro (run W (.op1 k a)) σ H Q) :
    tCB (rC1 K (sem1 k)) (tCons (rdE K pro (run W a)) tNil) σ H Q := by
  obtain ⟨A, r, F, o, _, ok, fit, hm, q⟩ := imp_op1 h
  exact ⟨A, r, F, o, _, ok, fit, hm, fun v F' H' s f k => ⟨v, rfl, q v F' H' s f k⟩⟩
theorem imp_isi {t : String} {a : E} {σ : L2.St} {H : Hp} {Q : VK} (h : rdE K pro (run W (.op1 (.isi t) a)) σ H Q) :
    tCB (fun xs H Q => ∃ x, xs = [x, .ty t] ∧ rD1 K (semIsi t) x H Q) (tCons (rdE K pro (run W a)) (tCons (tC (.ty t)) tNil)) σ H Q := by
  obtain ⟨A, r, F, o, _, ok, fit, hm, q⟩ := imp_op1 h
  exact ⟨A, r, F, o, _, ok, fit, hm, fun v F' H' s f k => ⟨v, rfl, q v F' H' s f k⟩⟩
theorem imp_neg {a : E} {σ : L2.St} {H : Hp} {Q : VK} (h : rdE K pro (run W (.op1 .neg a)) σ H Q) :
    tUn (rU fun i => .int (-i)) (rdE K pro (run W a)) σ H Q := by
  obtain ⟨A, r, F, o, _, ok, fit, hm, q⟩ := imp_op1 h
  refine ⟨A, r, F, o, _, ok, fit, hm, fun v F' H' s f k => ?_⟩
  obtain ⟨F1, d, o1, sm, hd, ho, q⟩ := q v F' H' s f k
  have ho : semNeg d = some o1 := ho
  unfold semNeg at ho
  split at ho
  · cases ho
    exact ⟨_, hd, q _ _ (new_int sm _)⟩
  · cases ho
/-- slices -/
theorem imp_cut {a : E} {lo hi : Oe} {σ : L2.St} {H : Hp} {Q : VK} (h : rdE K pro (run W (.cut a lo hi)) σ H Q) :
    tSl (rCut K) (rdE K pro (run W a)) (rdO K pro (runO W lo)) (rdO K pro (runO W hi)) σ H Q := by
  obtain ⟨A, r, F, o, _, ok, fit, hm, q⟩ := h
  unfold run at hm
  obtain ⟨⟨oa, r1⟩, ha, hm⟩ := bindS hm
  obtain ⟨⟨l, r2⟩, hl, hm⟩ := bindS hm
  obtain ⟨⟨u, r3⟩, hu, hm⟩ := bindS hm
  obtain ⟨d, hd, hm⟩ := bindS hm
  obtain ⟨o3, ho, hm⟩ := bindS hm
  cases hm
  refine ⟨A, r, F, oa, _, ok, fit, ha, fun v1 F1 H1 s1 f1 k1 => ?_⟩
  obtain ⟨F1', s1', f1', h1⟩ := f1.hold k1
  refine ⟨A, r1, F1', l, _, ok, f1', hl, fun F2 H2 s2 f2 => ?_⟩
  refine ⟨A, r2, F2, u, _, ok, f2, hu, fun F3 H3 s3 f3 => ?_⟩
  have g1 := Held.seen f3 (h1.mono (s2.trans s3)) hd
  rw [ok.k] at g1
  refine ⟨F3, d, _, f3.sub, g1, ho, fun v H' nw => ?_⟩
  rw [← ok.k] at nw
  obtain ⟨F4, s4, f4, k4⟩ := f3.made nw
  exact q v F4 H' (((s1.trans s1').trans (s2.trans s3)).trans s4) f4 k4
theorem imp_no {σ : L2.St} {H : Hp} {Q : Option Int → Hp → Prop} (h : rdO K pro (runO W .no) σ H Q) : tNoPart σ H Q := by
  obtain ⟨A, r, F, o, _, ok, fit, hm, q⟩ := h
  unfold runO at hm
  cases hm
  exact q F H (Same.refl F) fit
theorem imp_yes {e : E} {σ : L2.St} {H : Hp} {Q : Option Int → Hp → Prop} (h : rdO K pro (runO W (.yes e)) σ H Q) : tPart (rdE K pro (run W e)) σ H Q := by
  obtain ⟨A, r, F, o, _, ok, fit, hm, q⟩ := h
  unfold runO at hm
  obtain ⟨⟨oa, r1⟩, ha, hm⟩ := bindS hm
  dsimp only at hm
  split at hm
  · rename_i i hi
    cases hm
    refine ⟨A, r, F, oa, _, ok, fit, ha, fun v1 F1 H1 s1 f1 k1 => ?_⟩
    obtain ⟨F1', s1', f1', h1⟩ := f1.hold k1
    have g1 := Held.seen f1' h1 hi
    exact ⟨i, g1, q F1' H1 (s1.trans s1') f1'⟩
  · cases hm
theorem imp_rev {a : E} {σ : L2.St} {H : Hp} {Q : VK} (h : rdE K pro (run W (.rev a)) σ H Q) : tRevL K (rdE K pro (run W a)) σ H Q := by
  obtain ⟨A, r, F, o, _, ok, fit, hm, q⟩ := h
  unfold run at hm
  obtain ⟨⟨oa, r1⟩, ha, hm⟩ := bindS hm
  obtain ⟨d, hd, hm⟩ := bindS hm
  obtain ⟨o3, ho, hm⟩ := bindS hm
  cases hm
  refine ⟨A, r, F, oa, _, ok, fit, ha, fun v1 F1 H1 s1 f1 k1 => ?_⟩
  obtain ⟨F1', s1', f1', h1⟩ := f1.hold k1
  have g1 := Held.seen f1' h1 hd
  unfold semRev at ho
  split at ho
  · cases ho
    obtain ⟨l, xs, rfl, hx, lx, rx⟩ := g1
    refine ⟨l, xs, rfl, by rw [← ok.k]; exact hx, fun p hp => ?_⟩
    obtain ⟨F3, s3, f3, k3⟩ := f1'.made (NewOk.lst f1'.sub hp (by rw [List.length_reverse]; exact lx) (DenL.rev rx))
    exact q _ F3 _ ((s1.trans s1').trans s3) f3 k3
  · cases ho
/-- displays -/
theorem imp_tup {es : Es} {σ : L2.St} {H : Hp} {Q : VK} (hl : ∀ r ds r', runL W es r = some (ds, r') → ds.length ≤ sizeLine) (h : rdE K pro (run W (.tup es)) σ H Q) : tTup (rdL K pro (runL W es)) σ H Q := by
  obtain ⟨A, r, F, o, _, ok, fit, hm, q⟩ := h
  unfold run at hm
  obtain ⟨⟨ds, r1⟩, ha, hm⟩ := bindS hm
  cases hm
  refine ⟨A, r, F, ds, _, ok, fit, ha, fun vs F1 H1 s1 f1 k1 => ?_⟩
  have l1 := hl _ _ _ ha
  have l2 : vs.length ≤ sizeLine := by rw [← DenL.length k1]; exact l1
  refine ⟨l2, fun p hp => ?_⟩
  obtain ⟨F3, s3, f3, k3⟩ := f1.made (NewOk.tup f1.sub hp l2 k1)
  exact q _ F3 _ (s1.trans s3) f3 k3
theorem imp_lst {es : Es} {σ : L2.St} {H : Hp} {Q : VK} (hl : ∀ r ds r', runL W es r = some (ds, r') → ds.length ≤ sizeLine) (h : rdE K pro (run W (.lst es)) σ H Q) : tLst (rdL K pro (runL W es)) σ H Q := by
  obtain ⟨A, r, F, o, _, ok, fit, hm, q⟩ := h
  unfold run at hm
  obtain ⟨⟨ds, r1⟩, ha, hm⟩ := bindS hm
  cases hm
  refine ⟨A, r, F, ds, _, ok, fit, ha, fun vs F1 H1 s1 f1 k1 => ?_⟩
  have l1 := hl _ _ _ ha
  have l2 : vs.length ≤ sizeLine := by rw [← DenL.length k1]; exact l1
  refine ⟨l2, fun p hp => ?_⟩
  obtain ⟨F3, s3, f3, k3⟩ := f1.made (NewOk.lst f1.sub hp l2 k1)
  exact q _ F3 _ (s1.trans s3) f3 k3
theorem imp_nil {σ : L2.St} {H : Hp} {Q : List V → Hp → Prop} (h : rdL K pro (runL W .nil) σ H Q) : tNil σ H Q := by
  obtain ⟨A, r, F, ds, _, ok, fit, hm, q⟩ := h
  unfold runL at hm
  cases hm
  exact q [] F H (Same.refl F) fit rfl
theorem imp_cons {e : E} {es : Es} {σ : L2.St} {H : Hp} {Q : List V → Hp → Prop} (h : rdL K pro (runL W (.cons e es)) σ H Q) : tCons (rdE K pro (run W e)) (rdL K pro (runL W es)) σ H Q := by
  obtain ⟨A, r, F, ds, _, ok, fit, hm, q⟩ := h
  unfold runL at hm
  obtain ⟨⟨oa, r1⟩, ha, hm⟩ := bindS hm
  obtain ⟨⟨d, r2⟩, hd, hm⟩ := bindS hm
  obtain ⟨⟨ds', r3⟩, he, hm⟩ := bindS hm
  cases hm
  refine ⟨A, r, F, oa, _, ok, fit, ha, fun v1 F1 H1 s1 f1 k1 => ?_⟩
  obtain ⟨F1', s1', f1', h1⟩ := f1.frz k1 hd
  refine ⟨A, r2, F1', ds', _, ok, f1', he, fun vs F2 H2 s2 f2 k2 => ?_⟩
  exact q (v1 :: vs) F2 H2 ((s1.trans s1').trans s2) f2 (DenL.cons (Den.mono s2 _ h1) k2)
/-- names and constants -/
theorem imp_var {i : Nat} {σ : L2.St} {H : Hp} {Q : VK} (h : rdE K pro (run W (.var i)) σ H Q) : tVar i σ H Q := by
  obtain ⟨A, r, F, o, _, ok, fit, hm, q⟩ := h
  unfold run at hm
  obtain ⟨s, hs, hm⟩ := bindS hm
  cases hm
  obtain ⟨v, e1, _⟩ := fit.slot i s (look_some hs)
  exact ⟨v, e1, q v F H (Same.refl F) fit e1⟩
theorem imp_c {m : Rho → Option (Out × Rho)} {d : Dat} {v : V} {σ : L2.St} {H : Hp} {Q : VK} (hm : ∀ r, m r = some (.val d, r)) (hd : ∀ K F, Den K F d v) (h : rdE K pro m σ H Q) : tC v σ H Q := by
  obtain ⟨A, r, F, o, _, ok, fit, h1, q⟩ := h
  rw [hm] at h1
  cases h1
  exact q v F H (Same.refl F) fit (hd _ _)
/-- truth -/
theorem Seen.tru {F H : Hp} (sm : Same F H) {d : Dat} {x : V} {t : Bool} (h : Seen K F H d x) (e : truthD d = some t) : TruV K x H t := by
  cases d with
  | non => rw [show x = _ from h]; cases e; exact rfl
  | bl b => rw [show x = _ from h]; cases e; exact rfl
  | int i => rw [show x = _ from h]; cases e; exact rfl
  | str z => rw [h.1]; cases e; exact ⟨h.2, rfl⟩
  | tup ds =>
    obtain ⟨a, ys, rfl, hx, lx, r'⟩ := h
    cases e
    exact .inr (.inl ⟨ys, Same.seqT sm hx, (DenL.empty r').symm⟩)
  | lst ds =>
    obtain ⟨a, ys, rfl, hx, lx, r'⟩ := h
    cases e
    exact .inl ⟨ys, hx, (DenL.empty r').symm⟩
  | dct ds => cases e
  | fn c ds => cases e
theorem imp_tval {e : E} {σ : L2.St} {H : Hp} {Q : Bool → Hp → Prop} (h : rdT K pro (runT W (.val e)) σ H Q) : rdE K pro (run W e) σ H fun x H' => ∃ k, TruV K x H' k ∧ Q k H' := by
  obtain ⟨A, r, F, b, _, ok, fit, hm, q⟩ := h
  unfold runT at hm
  obtain ⟨⟨oa, r1⟩, ha, hm⟩ := bindS hm
  obtain ⟨d, hd, hm⟩ := bindS hm
  obtain ⟨t, ht, hm⟩ := bindS hm
  cases hm
  refine ⟨A, r, F, oa, _, ok, fit, ha, fun v1 F1 H1 s1 f1 k1 => ?_⟩
  obtain ⟨F1', s1', f1', h1⟩ := f1.hold k1
  have g1 := Held.seen f1' h1 hd
  rw [ok.k] at g1
  exact ⟨_, Seen.tru f1'.sub g1 ht, q F1' H1 (s1.trans s1') f1'⟩
theorem imp_tcmp {k : K2} {a b : E} {σ : L2.St} {H : Hp} {Q : Bool → Hp → Prop} (h : rdT K pro (runT W (.cmp k a b)) σ H Q) :
    tTest (tOp (rD2 K (sem2 k)) (rdE K pro (run W a)) (rdE K pro (run W b))) σ H Q := by
  obtain ⟨A, r, F, t, _, ok, fit, hm, q⟩ := h
  unfold runT at hm
  obtain ⟨⟨oa, r1⟩, ha, hm⟩ := bindS hm
  obtain ⟨⟨ob, r2⟩, hb, hm⟩ := bindS hm
  obtain ⟨d, hd, hm⟩ := bindS hm
  obtain ⟨e, he, hm⟩ := bindS hm
  try dsimp only at hm
  split at hm
  · rename_i t' ho
    cases hm
    refine ⟨A, r, F, oa, _, ok, fit, ha, fun v1 F1 H1 s1 f1 k1 => ?_⟩
    obtain ⟨F1', s1', f1', h1⟩ := f1.hold k1
    refine ⟨A, r1, F1', ob, _, ok, f1', hb, fun v2 F2 H2 s2 f2 k2 => ?_⟩
    obtain ⟨F2', s2', f2', h2⟩ := f2.hold k2
    have g1 := Held.seen f2' (h1.mono (s2.trans s2')) hd
    have g2 := Held.seen f2' h2 he
    rw [ok.k] at g1 g2
    refine ⟨F2', d, e, _, f2'.sub, g1, g2, ho, fun v H' nw => ?_⟩
    rw [← ok.k] at nw
    obtain ⟨F3, s3, f3, k3⟩ := f2'.made nw
    exact ⟨t, k3, q F3 H' (((s1.trans s1').trans (s2.trans s2')).trans s3) f3⟩
  · cases hm
theorem imp_tnot {t : T} {σ : L2.St} {H : Hp} {Q : Bool → Hp → Prop} (h : rdT K pro (runT W (.not t)) σ H Q) : tNot (rdT K pro (runT W t)) σ H Q := by
  obtain ⟨A, r, F, b, _, ok, fit, hm, q⟩ := h
  unfold runT at hm
  obtain ⟨⟨c, r1⟩, ha, hm⟩ := bindS hm
  cases hm
  exact ⟨A, r, F, c, _, ok, fit, ha, q⟩
theorem imp_tand {t u : T} {σ : L2.St} {H : Hp} {Q : Bool → Hp → Prop} (h : rdT K pro (runT W (.and t u)) σ H Q) : tAnd (rdT K pro (runT W t)) (rdT K pro (runT W u)) σ H Q := by
  obtain ⟨A, r, F, b, _, ok, fit, hm, q⟩ := h
  unfold runT at hm
  obtain ⟨⟨c, r1⟩, ha, hm⟩ := bindS hm
  dsimp only at hm
  refine ⟨A, r, F, c, _, ok, fit, ha, fun F1 H1 s1 f1 => ?_⟩
  split at hm
  · rename_i hc
    rw [if_pos hc]
    exact ⟨A, r1, F1, b, _, ok, f1, hm, fun F2 H2 s2 f2 => q F2 H2 (s1.trans s2) f2⟩
  · rename_i hc
    rw [if_neg hc]
    cases hm
    exact q F1 H1 s1 f1
theorem imp_tor {t u : T} {σ : L2.St} {H : Hp} {Q : Bool → Hp → Prop} (h : rdT K pro (runT W (.or t u)) σ H Q) : tOr (rdT K pro (runT W t)) (rdT K pro (runT W u)) σ H Q := by
  obtain ⟨A, r, F, b, _, ok, fit, hm, q⟩ := h
  unfold runT at hm
  obtain ⟨⟨c, r1⟩, ha, hm⟩ := bindS hm
  dsimp only at hm
  refine ⟨A, r, F, c, _, ok, fit, ha, fun F1 H1 s1 f1 => ?_⟩
  split at hm
  · rename_i hc
    rw [if_pos hc]
    cases hm
    exact q F1 H1 s1 f1
  · rename_i hc
    rw [if_neg hc]
    exact ⟨A, r1, F1, b, _, ok, f1, hm, fun F2 H2 s2 f2 => q F2 H2 (s1.trans s2) f2⟩
theorem imp_and {a b : E} {σ : L2.St} {H : Hp} {Q : VK} (h : rdE K pro (run W (.and a b)) σ H Q) : tAndT K (rdE K pro (run W a)) (rdE K pro (run W b)) σ H Q := by
  obtain ⟨A, r, F, o, _, ok, fit, hm, q⟩ := h
  unfold run at hm
  obtain ⟨⟨oa, r1⟩, ha, hm⟩ := bindS hm
  obtain ⟨⟨d, r2⟩, hd, hm⟩ := bindS hm
  obtain ⟨t, ht, hm⟩ := bindS hm
  try dsimp only at hm
  refine ⟨A, r, F, oa, _, ok, fit, ha, fun v1 F1 H1 s1 f1 k1 => ?_⟩
  obtain ⟨F1', s1', f1', h1⟩ := f1.frz k1 hd
  have g1 := Seen.of f1'.sub h1
  rw [ok.k] at g1
  refine ⟨t, Seen.tru f1'.sub g1 ht, ?_⟩
  split at hm
  · rename_i hc
    rw [if_pos hc]
    exact ⟨A, r2, F1', o, _, ok, f1', hm, fun v F2 H2 s2 f2 k2 => q v F2 H2 ((s1.trans s1').trans s2) f2 k2⟩
  · rename_i hc
    rw [if_neg hc]
    cases hm
    exact q v1 F1' H1 (s1.trans s1') f1' h1
theorem imp_or {a b : E} {σ : L2.St} {H : Hp} {Q : VK} (h : rdE K pro (run W (.or a b)) σ H Q) : tOrT K (rdE K pro (run W a)) (rdE K pro (run W b)) σ H Q := by
  obtain ⟨A, r, F, o, _, ok, fit, hm, q⟩ := h
  unfold run at hm
  obtain ⟨⟨oa, r1⟩, ha, hm⟩ := bindS hm
  obtain ⟨⟨d, r2⟩, hd, hm⟩ := bindS hm
  obtain ⟨t, ht, hm⟩ := bindS hm
  try dsimp only at hm
  refine ⟨A, r, F, oa, _, ok, fit, ha, fun v1 F1 H1 s1 f1 k1 => ?_⟩
  obtain ⟨F1', s1', f1', h1⟩ := f1.frz k1 hd
  have g1 := Seen.of f1'.sub h1
  rw [ok.k] at g1
  refine ⟨t, Seen.tru f1'.sub g1 ht, ?_⟩
  split at hm
  · rename_i hc
    rw [if_pos hc]
    cases hm
    exact q v1 F1' H1 (s1.trans s1') f1' h1
  · rename_i hc
    rw [if_neg hc]
    exact ⟨A, r2, F1', o, _, ok, f1', hm, fun v F2 H2 s2 f2 k2 => q v F2 H2 ((s1.trans s1').trans s2) f2 k2⟩
theorem imp_not {a : E} {σ : L2.St} {H : Hp} {Q : VK} (h : rdE K pro (run W (.not a)) σ H Q) : tNotT K (rdE K pro (run W a)) σ H Q := by
  obtain ⟨A, r, F, o, _, ok, fit, hm, q⟩ := h
  unfold run at hm
  obtain ⟨⟨oa, r1⟩, ha, hm⟩ := bindS hm
  obtain ⟨d, hd, hm⟩ := bindS hm
  obtain ⟨t, ht, hm⟩ := bindS hm
  cases hm
  refine ⟨A, r, F, oa, _, ok, fit, ha, fun v1 F1 H1 s1 f1 k1 => ?_⟩
  obtain ⟨F1', s1', f1', h1⟩ := f1.hold k1
  have g1 := Held.seen f1' h1 hd
  rw [ok.k] at g1
  exact ⟨t, Seen.tru f1'.sub g1 ht, q _ F1' H1 (s1.trans s1') f1' rfl⟩
theorem imp_ite {t : T} {a b : E} {σ : L2.St} {H : Hp} {Q : VK} (h : rdE K pro (run W (.ite t a b)) σ H Q) : tIf (rdT K pro (runT W t)) (rdE K pro (run W a)) (rdE K pro (run W b)) σ H Q := by
  obtain ⟨A, r, F, o, _, ok, fit, hm, q⟩ := h
  unfold run at hm
  obtain ⟨⟨c, r1⟩, ha, hm⟩ := bindS hm
  dsimp only at hm
  refine ⟨A, r, F, c, _, ok, fit, ha, fun F1 H1 s1 f1 => ?_⟩
  split at hm
  · rename_i hc
    rw [if_pos hc]
    exact ⟨A, r1, F1, o, _, ok, f1, hm, fun v F2 H2 s2 f2 k2 => q v F2 H2 (s1.trans s2) f2 k2⟩
  · rename_i hc
    rw [if_neg hc]
    exact ⟨A, r1, F1, o, _, ok, f1, hm, fun v F2 H2 s2 f2 k2 => q v F2 H2 (s1.trans s2) f2 k2⟩
end
end Dl

/-! D5: calls, lists that change, walks, comprehensions, statements. -/
namespace Dl
open PySem PySem.Spec PyProof.Rows L2

/-! ### the promise of a def -/
def IoA (io : Option Nat) (vs : List V) (b : Addr) : Prop := ∃ i : Nat, io = some i ∧ vs[i]? = some (.ref b)
def ResOk (K : PySem.W.Frag) (H F' H' : Hp) : Out → V → Prop
  | .val x, v => Den K F' x v
  | .fresh x, v => ∃ a, v = .ref a ∧ F' a = none ∧ H a = none ∧ Own K F' H' a x
  | .place _, _ => False
structure ArgsOk (K : PySem.W.Frag) (io : Option Nat) (np : Nat) (F H : Hp) (ds : List Dat) (vs : List V) : Prop where
  sub : Same F H
  lv : vs.length = np
  ld : ds.length = np
  fz : ∀ (i : Nat) (d : Dat) (v : V), ds[i]? = some d → vs[i]? = some v → io ≠ some i → Den K F d v
  lent : ∀ (i : Nat) (d : Dat) (v : V), ds[i]? = some d → vs[i]? = some v → io = some i → ∃ a, v = .ref a ∧ F a = none ∧ Own K F H a d
structure PostOk (K : PySem.W.Frag) (io : Option Nat) (F H : Hp) (vs : List V) (o : Out) (d : Dat) (v : V) (F' H' : Hp) : Prop where
  ff : Same F F'
  fh : Same F' H'
  keep : ∀ b u, H b = some u → ¬ IoA io vs b → H' b = some u
  newf : ∀ b u, F' b = some u → F b = some u ∨ H b = none
  lent : ∀ b, IoA io vs b → F' b = none ∧ Own K F' H' b d
  res : ResOk K H F' H' o v
def spD (K : PySem.W.Frag) (io : Option Nat) (np : Nat) (phi : List Dat → Option (Out × Dat)) : Sp := fun vs H Q _ =>
  ∃ F ds o d, phi ds = some (o, d) ∧ ArgsOk K io np F H ds vs ∧ ∀ v F' H', PostOk K io F H vs o d v F' H' → Q v H'

section
variable {K : PySem.W.Frag} {pro : List Nat} {W : Wd}
/-! ### arguments -/
theorem imp_anil {k : Option Nat} {σ : L2.St} {H : Hp} {Q : List V → Hp → Prop} (h : rdA K pro (runA W .nil k) σ H Q) : tNil σ H Q := by
  obtain ⟨A, r, F, os, r', ok, fit, hm, q⟩ := h
  unfold runA at hm
  cases hm
  exact q [] F H (Same.refl F) fit rfl
theorem vals_of_none : ∀ (es : Es) (r : Rho) (os : List Out) (r' : Rho), runA W es none r = some (os, r') → ∀ o ∈ os, ∃ d, o = .val d
  | .nil, r, os, r', h, o, ho => by
    unfold runA at h
    cases h
    cases ho
  | .cons e es, r, os, r', h, o, ho => by
    unfold runA at h
    obtain ⟨⟨oa, r1⟩, ha, h⟩ := bindS h
    obtain ⟨⟨d, r2⟩, hd, h⟩ := bindS h
    obtain ⟨⟨os', r3⟩, he, h⟩ := bindS h
    cases h
    rcases List.mem_cons.mp ho with rfl | ho
    · exact ⟨d, rfl⟩
    · exact vals_of_none es r2 os' _ he o ho
theorem OutsOk.unguard {A : Fr} {a : Addr} {u : HO} {r : Rho} {F : Hp} {σ : L2.St} {H : Hp} : ∀ {os : List Out} {vs : List V}, (∀ o ∈ os, ∃ d, o = .val d) → OutsOk (A.guard a u) r F σ H os vs → OutsOk A r F σ H os vs
  | [], _, _, h => h
  | o :: os, _, hv, ⟨v, ws, e, h1, h2⟩ => by
    obtain ⟨d, rfl⟩ := hv o List.mem_cons_self
    exact ⟨v, ws, e, h1, OutsOk.unguard (fun o ho => hv o (List.mem_cons_of_mem _ ho)) h2⟩
theorem imp_acons_fz {e : E} {es : Es} {k : Option Nat} {k' : Option Nat} {σ : L2.St} {H : Hp} {Q : List V → Hp → Prop} (hk : (k = none ∧ k' = none) ∨ ∃ j, k = some (j + 1) ∧ k' = some j) (h : rdA K pro (runA W (.cons e es) k) σ H Q) :
    tCons (rdE K pro (run W e)) (rdA K pro (runA W es k')) σ H Q := by
  obtain ⟨A, r, F, os, r', ok, fit, hm, q⟩ := h
  have hm2 : ((run W e r).bind fun x => (frz x.2 x.1).bind fun y => (runA W es k' y.2).bind fun z => some (Out.val y.1 :: z.1, z.2)) = some (os, r') := by
    rcases hk with ⟨rfl, rfl⟩ | ⟨j, rfl, rfl⟩
    · unfold runA at hm
      exact hm
    · unfold runA at hm
      exact hm
  obtain ⟨⟨oa, r1⟩, ha, hm2⟩ := bindS hm2
  obtain ⟨⟨d, r2⟩, hd, hm2⟩ := bindS hm2
  obtain ⟨⟨os', r3⟩, he, hm2⟩ := bindS hm2
  cases hm2
  refine ⟨A, r, F, oa, r1, ok, fit, ha, fun v1 F1 H1 s1 f1 k1 => ?_⟩
  obtain ⟨F1', s1', f1', h1⟩ := f1.frz k1 hd
  refine ⟨A, r2, F1', os', _, ok, f1', he, fun vs F2 H2 s2 f2 k2 => ?_⟩
  exact q (v1 :: vs) F2 H2 ((s1.trans s1').trans s2) f2 ⟨v1, vs, rfl, Den.mono s2 _ h1, k2⟩
theorem imp_acons_io {e : E} {es : Es} {σ : L2.St} {H : Hp} {Q : List V → Hp → Prop} (h : rdA K pro (runA W (.cons e es) (some 0)) σ H Q) :
    tCons (rdE K pro (run W e)) (rdA K pro (runA W es none)) σ H Q := by
  obtain ⟨A, r, F, os, r', ok, fit, hm, q⟩ := h
  unfold runA at hm
  obtain ⟨⟨oa, r1⟩, ha, hm⟩ := bindS hm
  obtain ⟨ol, hl, hm⟩ := bindS hm
  obtain ⟨⟨os', r3⟩, he, hm⟩ := bindS hm
  cases hm
  refine ⟨A, r, F, oa, r1, ok, fit, ha, fun v1 F1 H1 s1 f1 k1 => ?_⟩
  cases oa with
  | val d => cases hl
  | fresh d =>
    cases hl
    obtain ⟨a, rfl, g1, g2, g3, g4, g5⟩ := k1
    obtain ⟨u, hu⟩ := Own.there g4
    have gf := f1.guard (o := u) hu g1 g3 g5
    refine ⟨A.guard a u, r1, F1, os', _, ok.guard a u, gf, he, fun vs F2 H2 s2 f2 k2 => ?_⟩
    obtain ⟨f2', u1, u2, u3⟩ := f2.unguard g2 (f1.f0.free g1) g3
    refine q (.ref a :: vs) F2 H2 (s1.trans s2) f2' ⟨_, vs, rfl, ⟨a, rfl, u2, g2, g3, Own.stay s2 (fun o ho => ?_) g4, u3⟩, OutsOk.unguard (vals_of_none es r1 os' _ he) k2⟩
    rw [hu] at ho
    cases ho
    exact u1
  | place i =>
    have el : ol = .place i := by
      have hl : (match look r1 i with
        | some ⟨_, .fz⟩ => none
        | some _ => some (Out.place i)
        | none => none) = some ol := hl
      split at hl
      · cases hl
      · cases hl; rfl
      · cases hl
    subst el
    refine ⟨A, r1, F1, os', _, ok, f1, he, fun vs F2 H2 s2 f2 k2 => ?_⟩
    exact q (v1 :: vs) F2 H2 (s1.trans s2) f2 ⟨v1, vs, rfl, k1, k2⟩
theorem OutsOk.get {A : Fr} {r : Rho} {F : Hp} {σ : L2.St} {H : Hp} : ∀ {os : List Out} {vs : List V} {i : Nat} {v : V}, OutsOk A r F σ H os vs → vs[i]? = some v → ∃ o, os[i]? = some o ∧ OutOk A r F σ H o v
  | [], _, i, v, h, e => by
    have h : _ = [] := h
    subst h
    cases e
  | o :: os, _, 0, v, ⟨w, ws, e, h1, h2⟩, g => by
    subst e
    cases g
    exact ⟨o, rfl, h1⟩
  | o :: os, _, i + 1, v, ⟨w, ws, e, h1, h2⟩, g => by
    subst e
    exact OutsOk.get (i := i) h2 g
theorem OutsOk.len {A : Fr} {r : Rho} {F : Hp} {σ : L2.St} {H : Hp} : ∀ {os : List Out} {vs : List V}, OutsOk A r F σ H os vs → os.length = vs.length
  | [], _, h => by
    have h : _ = [] := h
    subst h
    rfl
  | o :: os, _, ⟨w, ws, e, h1, h2⟩ => by
    subst e
    rw [List.length_cons, List.length_cons, OutsOk.len h2]
theorem resAll_get {r : Rho} : ∀ {os : List Out} {ds : List Dat} {i : Nat} {d : Dat}, resAll r os = some ds → ds[i]? = some d → ∃ o, os[i]? = some o ∧ res r o = some d
  | [], ds, i, d, h, e => by cases h; cases e
  | o :: os, ds, i, d, h, e => by
    unfold resAll at h
    obtain ⟨x, hx, h⟩ := bindS h
    obtain ⟨xs, hxs, h⟩ := bindS h
    cases h
    cases i with
    | zero => cases e; exact ⟨o, rfl, hx⟩
    | succ i => exact resAll_get (i := i) hxs e
theorem resAll_len {r : Rho} : ∀ {os : List Out} {ds : List Dat}, resAll r os = some ds → ds.length = os.length
  | [], ds, h => by cases h; rfl
  | o :: os, ds, h => by
    unfold resAll at h
    obtain ⟨x, hx, h⟩ := bindS h
    obtain ⟨xs, hxs, h⟩ := bindS h
    cases h
    rw [List.length_cons, List.length_cons, resAll_len hxs]
/-- which arguments are lent -/
theorem runA_kind : ∀ (es : Es) (k : Option Nat) (r : Rho) (os : List Out) (r' : Rho), runA W es k r = some (os, r') → ∀ (i : Nat) (o : Out), os[i]? = some o → k ≠ some i → ∃ d, o = .val d
  | .nil, k, r, os, r', h, i, o, ho, hk => by
    unfold runA at h
    cases h
    cases ho
  | .cons e es, none, r, os, r', h, i, o, ho, hk => vals_of_none _ r os r' h o (List.mem_of_getElem? ho)
  | .cons e es, some 0, r, os, r', h, i, o, ho, hk => by
    unfold runA at h
    obtain ⟨⟨oa, r1⟩, ha, h⟩ := bindS h
    obtain ⟨ol, hl, h⟩ := bindS h
    obtain ⟨⟨os', r3⟩, he, h⟩ := bindS h
    cases h
    cases i with
    | zero => exact absurd rfl hk
    | succ i => exact vals_of_none es r1 os' _ he o (List.mem_of_getElem? (i := i) ho)
  | .cons e es, some (k + 1), r, os, r', h, i, o, ho, hk => by
    unfold runA at h
    obtain ⟨⟨oa, r1⟩, ha, h⟩ := bindS h
    obtain ⟨⟨d, r2⟩, hd, h⟩ := bindS h
    obtain ⟨⟨os', r3⟩, he, h⟩ := bindS h
    cases h
    cases i with
    | zero => cases ho; exact ⟨d, rfl⟩
    | succ i => exact runA_kind es (some k) r2 os' _ he i o ho fun z => hk (by cases z; rfl)

/-- one object, that no slot owns, has changed; others are new -/
theorem Fit.changed {A : Fr} {r : Rho} {F F' H H' : Hp} {σ : L2.St} (h : Fit A r F σ H) {a : Addr} (ff : Same F F') (fh : Same F' H') (keep : ∀ b u, H b = some u → b ≠ a → H' b = some u)
    (newf : ∀ b u, F' b = some u → F b = some u ∨ H b = none) (ha : ∃ o, H' a = some o) (hex : A.H0 a = none ∨ A.io a) (nm : ¬ Mine r σ a) : Fit A r F' σ H' := by
  refine ⟨fh, fun b o e x => keep b o (h.keep b o e x) fun z => ?_, fun b o e => ?_, h.f0.trans ff, fun b x => ?_, fun i s e => ?_, h.sep, h.pro, h.len⟩
  · subst z
    rcases hex with z | z
    · rw [e] at z; cases z
    · exact x z
  · rcases newf b o e with z | z
    · exact h.newf b o z
    · exact .inr (h.free z).1
  · by_cases hb : b = a
    · subst hb
      exact ha
    · obtain ⟨o, q⟩ := h.ioh b x
      exact ⟨o, keep b o q hb⟩
  · obtain ⟨v, e2, q⟩ := h.slot i s e
    refine ⟨v, e2, q.stay ff (fun b eb em fb => ?_) fun b eb em o ho => keep b o ho fun z => nm ⟨i, s, e, em, by rw [e2, eb, z]⟩⟩
    subst eb
    obtain ⟨o, ho⟩ := Own.there (q.mine em).2.2
    cases qf : F' b with
    | none => rfl
    | some u =>
      rcases newf b u qf with z | z
      · rw [fb] at z; cases z
      · rw [ho] at z; cases z
/-- a slot is known again -/
theorem Fit.regain {A : Fr} {r : Rho} {F H : Hp} {σ : L2.St} {j : Nat} {s : Sl} {v : V} (h : Fit A (r.set j none) F σ H) (ev : σ[j]? = some (some v)) (q : SlotOk A F H s v) (nm : s.m ≠ .fz → ∀ a, v = .ref a → ¬ Mine (r.set j none) σ a) : Fit A (r.set j (some s)) F σ H := by
  have get : ∀ {i : Nat} {t : Sl}, (r.set j (some s))[i]? = some (some t) → (i = j ∧ t = s) ∨ (i ≠ j ∧ (r.set j none)[i]? = some (some t)) := fun {i t} e => by
    rcases set_get e with ⟨rfl, z⟩ | ⟨n, z⟩
    · exact .inl ⟨rfl, (Option.some.inj z).symm⟩
    · exact .inr ⟨n, by rw [List.getElem?_set_ne (Ne.symm n)]; exact z⟩
  refine ⟨h.sub, h.keep, h.newf, h.f0, h.ioh, fun i t e => ?_, fun i k t u b n e1 m1 e2 m2 s1 s2 => ?_, h.pro, by have := h.len; rw [List.length_set] at this ⊢; exact this⟩
  · rcases get e with ⟨rfl, rfl⟩ | ⟨n, z⟩
    · exact ⟨v, ev, q⟩
    · exact h.slot i t z
  · rcases get e1 with ⟨rfl, rfl⟩ | ⟨n1, z1⟩
    · rcases get e2 with ⟨rfl, _⟩ | ⟨n2, z2⟩
      · exact n rfl
      · rw [ev] at s1
        exact nm m1 b (Option.some.inj (Option.some.inj s1)) ⟨k, u, z2, m2, s2⟩
    · rcases get e2 with ⟨rfl, rfl⟩ | ⟨n2, z2⟩
      · rw [ev] at s2
        exact nm m2 b (Option.some.inj (Option.some.inj s2)) ⟨i, t, z1, m1, s1⟩
      · exact h.sep i k t u b n z1 m1 z2 m2 s1 s2
theorem Fit.alone {A : Fr} {r : Rho} {F H : Hp} {σ : L2.St} (h : Fit A r F σ H) {j : Nat} {s : Sl} {a : Addr} (e : r[j]? = some (some s)) (em : s.m ≠ .fz) (ev : σ[j]? = some (some (.ref a))) : ¬ Mine (r.set j none) σ a := fun m => by
  obtain ⟨i, t, e1, m1, e3⟩ := m
  rcases set_get e1 with ⟨_, z⟩ | ⟨n, z⟩
  · cases z
  · exact h.sep i j t s a n z m1 e em e3 ev
/-- what comes back from a call -/
theorem back_res {A : Fr} {r r' : Rho} {F H F' H' : Hp} {σ : L2.St} {o : Out} {v : V} (h : Fit A r F σ H) (q : ResOk A.K H F' H' o v) (sub : ∀ a, Mine r' σ a → Mine r σ a) : OutOk A r' F' σ H' o v := by
  cases o with
  | val x => exact q
  | fresh x =>
    obtain ⟨a, e1, e2, e3, e4⟩ := q
    refine ⟨a, e1, e2, (h.free e3).1, (h.free e3).2, e4, fun m => ?_⟩
    obtain ⟨_, _, u, z⟩ := h.mine (sub a m)
    rw [e3] at z
    cases z
  | place i => exact q.elim

/-- a call of a def -/
theorem imp_call {f : Str} {es : Es} {io : Option Nat} {np : Nat} {σ : L2.St} {H : Hp} {Q : VK} (hio : W.io f = some io) (hnp : ∀ ds x, W.phi f ds = some x → ds.length = np)
    (h : rdE K pro (run W (.call f es)) σ H Q) : tCall (spD K io np (W.phi f)) [] E0 (rdA K pro (runA W es io)) σ H Q := by
  obtain ⟨A, r, F, o, r', ok, fit, hm, q⟩ := h
  unfold run at hm
  obtain ⟨io', hi, hm⟩ := bindS hm
  rw [hio] at hi
  cases hi
  obtain ⟨⟨os, r1⟩, ha, hm⟩ := bindS hm
  obtain ⟨ds, hd, hm⟩ := bindS hm
  obtain ⟨⟨o2, d⟩, hp, hm⟩ := bindS hm
  obtain ⟨r2, hg, hm⟩ := bindS hm
  cases hm
  refine ⟨A, r, F, os, r1, ok, fit, ha, fun vs F1 H1 s1 f1 k1 => ?_⟩
  show spD K io np (W.phi f) (vs ++ []) H1 Q E0
  rw [List.append_nil, ← ok.k]
  have hl := hnp ds _ hp
  have lo : os.length = vs.length := OutsOk.len k1
  have ld : ds.length = os.length := resAll_len hd
  have settled : ∀ (i : Nat) (x : Dat) (v : V), ds[i]? = some x → vs[i]? = some v → io ≠ some i → Den A.K F1 x v := fun i x v hx hv hi => by
    obtain ⟨oi, h1, h2⟩ := OutsOk.get k1 hv
    obtain ⟨oi', h3, h4⟩ := resAll_get hd hx
    rw [h1] at h3
    cases h3
    obtain ⟨y, rfl⟩ := runA_kind es io r os r1 ha i oi h1 hi
    cases h4
    exact h2
  cases io with
  | none =>
    refine ⟨F1, ds, o, d, hp, ⟨f1.sub, by omega, hl, settled, fun _ _ _ _ _ z => nomatch z⟩, fun v F' H' po => ?_⟩
    cases hg
    have nio : ∀ b, ¬ IoA none vs b := fun b z => by obtain ⟨i, e, _⟩ := z; cases e
    have nw : New A.K F1 H1 F' H' := ⟨po.ff, po.fh, fun b u e => po.keep b u e (nio b), po.newf⟩
    exact q v F' H' (s1.trans po.ff) (f1.grow nw) (back_res f1 po.res fun _ m => m)
  | some k =>
    have hg : (match os[k]? with
      | some (.place i) => match look r1 i with
        | some ⟨_, .own⟩ => some (r1.set i (some ⟨d, .own⟩))
        | some ⟨_, .io⟩ => some (r1.set i (some ⟨d, .io⟩))
        | _ => none
      | some (.fresh _) => some r1
      | _ => none) = some r' := hg
    -- the lent one
    have key : ∃ (a : Addr) (x : Dat), vs[k]? = some (.ref a) ∧ ds[k]? = some x ∧ F1 a = none ∧ Own A.K F1 H1 a x ∧
        ∀ v F' H', PostOk A.K (some k) F1 H1 vs o d v F' H' → Fit A r' F' σ H' ∧ (∀ b, Mine r' σ b → Mine r1 σ b) := by
      cases hok : os[k]? with
      | none => rw [hok] at hg; cases hg
      | some ok' =>
        rw [hok] at hg
        have hk : k < os.length := (List.getElem?_eq_some_iff.mp hok).1
        have hkv : k < vs.length := by omega
        have hkd : k < ds.length := by omega
        obtain ⟨oi, g1, g2⟩ := OutsOk.get k1 (List.getElem?_eq_getElem hkv)
        obtain ⟨oi', g3, g4⟩ := resAll_get hd (List.getElem?_eq_getElem hkd)
        rw [hok] at g1 g3
        cases g1
        cases g3
        cases ok' with
        | val x => cases hg
        | fresh x =>
          cases hg
          obtain ⟨a, e1, e2, e3, e4, e5, e6⟩ := g2
          have hx : x = ds[k] := Option.some.inj g4
          subst hx
          refine ⟨a, _, by rw [List.getElem?_eq_getElem hkv, e1], List.getElem?_eq_getElem hkd, e2, e5, fun v F' H' po => ⟨?_, fun _ m => m⟩⟩
          have ia : IoA (some k) vs a := ⟨k, rfl, by rw [List.getElem?_eq_getElem hkv, e1]⟩
          refine f1.changed po.ff po.fh (fun b u hb nb => po.keep b u hb fun z => ?_) po.newf (Own.there (po.lent a ia).2) (.inl e3) e6
          obtain ⟨i, ei, z⟩ := z
          cases ei
          rw [List.getElem?_eq_getElem hkv, e1] at z
          cases z
          exact nb rfl
        | place j =>
          have g4 : (look r1 j).map (·.d) = some ds[k] := g4
          cases hj : look r1 j with
          | none => rw [hj] at g4; cases g4
          | some s =>
            rw [hj] at g4
            have hsd : s.d = ds[k] := Option.some.inj g4
            have hjs := look_some hj
            have hg2 : s.m ≠ .fz ∧ r' = r1.set j (some ⟨d, s.m⟩) := by
              obtain ⟨sd, sm⟩ := s
              dsimp only at hg
              rw [hj] at hg
              cases sm with
              | fz => cases hg
              | own => cases hg; exact ⟨(fun z => nomatch z), rfl⟩
              | io => cases hg; exact ⟨(fun z => nomatch z), rfl⟩
            obtain ⟨hz, rfl⟩ := hg2
            obtain ⟨w, w1, w2⟩ := f1.slot j s hjs
            rw [show σ[j]? = some (some vs[k]) from g2] at w1
            cases w1
            obtain ⟨a, ea⟩ := w2.ref hz
            have g2 : σ[j]? = some (some vs[k]) := g2
            rw [ea] at w2 g2
            obtain ⟨m1, m2, m3⟩ := w2.mine hz
            have ia : IoA (some k) vs a := ⟨k, rfl, by rw [List.getElem?_eq_getElem hkv, ea]⟩
            refine ⟨a, ds[k], by rw [List.getElem?_eq_getElem hkv, ea], List.getElem?_eq_getElem hkd, m1, by rw [← hsd]; exact m3, fun v F' H' po => ⟨?_, fun b mb => ?_⟩⟩
            · have al := f1.alone hjs hz g2
              have fg := (f1.forget j).changed (a := a) po.ff po.fh (fun b u hb nb => po.keep b u hb fun z => by
                obtain ⟨i, ei, z⟩ := z
                cases ei
                rw [List.getElem?_eq_getElem hkv, ea] at z
                cases z
                exact nb rfl) po.newf (Own.there (po.lent a ia).2) (m2.elim (fun z => .inl z.1) .inr) al
              refine fg.regain g2 ?_ fun _ b eb => by cases eb; exact al
              obtain ⟨l1, l2⟩ := po.lent a ia
              unfold SlotOk at w2 ⊢
              show (match s.m with | .fz => _ | .own => _ | .io => _)
              cases hsm : s.m with
              | fz => exact absurd hsm hz
              | own =>
                rw [hsm] at w2
                obtain ⟨b, eb, _, b2, b3, _⟩ := w2
                cases eb
                exact ⟨a, rfl, l1, b2, b3, l2⟩
              | io =>
                rw [hsm] at w2
                obtain ⟨b, eb, _, b2, _⟩ := w2
                cases eb
                exact ⟨a, rfl, l1, b2, l2⟩
            · obtain ⟨i, t, e1, e2, e3⟩ := mb
              rcases set_get e1 with ⟨rfl, z⟩ | ⟨n, z⟩
              · exact ⟨i, s, hjs, hz, e3⟩
              · exact ⟨i, t, z, e2, e3⟩
    obtain ⟨a, x, c1, c2, c3, c4, c5⟩ := key
    refine ⟨F1, ds, o, d, hp, ⟨f1.sub, by omega, hl, settled, fun i y v hy hv hi => ?_⟩, fun v F' H' po => ?_⟩
    · cases hi
      rw [c1] at hv
      cases hv
      rw [c2] at hy
      cases hy
      exact ⟨a, rfl, c3, c4⟩
    · obtain ⟨g1, g2⟩ := c5 v F' H' po
      exact q v F' H' (s1.trans po.ff) g1 (back_res f1 po.res g2)
end
end Dl

/-! D6: lists that change, walks, comprehensions, loops, statements. -/
namespace Dl
open PySem PySem.Spec PyProof.Rows L2
section
variable {K : PySem.W.Frag} {pro : List Nat} {W : Wd}

theorem lst_of {d : Dat} (h : isLst d = true) : ∃ ds, d = .lst ds := by
  cases d with
  | lst ds => exact ⟨ds, rfl⟩
  | _ => exact absurd (show false = true from h) Bool.false_ne_true
theorem Fit.tyL {A : Fr} {r : Rho} {F H : Hp} {σ : L2.St} (h : Fit A r F σ H) {i : Nat} {s : Sl} {v : V} (e : look r i = some s) (ev : σ[i]? = some (some v)) (l : isLst s.d = true) (hK : A.K = K) : tyV K "list" v H := by
  have g := h.seen (look_some e) ev
  obtain ⟨ds, hd⟩ := lst_of l
  rw [hd] at g
  obtain ⟨a, xs, rfl, hx, _, _⟩ := g
  exact .inl ⟨rfl, xs, by rw [← hK]; exact hx⟩
theorem ix_small {n : Nat} {k : Int} {j : Nat} (h : ixN n k = some j) (hn : n ≤ sizeLine) : seqIndex? k n = some j ∧ -(2 ^ 63) ≤ k ∧ k < 2 ^ 63 := by
  obtain ⟨h1, h2, h3, h4⟩ := ixN_seq h
  have hs : sizeLine = 16777216 := sizeLine_eq
  exact ⟨h1, by omega, by omega⟩
/-- xs.pop(k) -/
theorem imp_pop {i : Nat} {a : E} {σ : L2.St} {H : Hp} {Q : VK} (h : rdE K pro (run W (.pop i a)) σ H Q) :
    tBM K "list" rPopAt (tVar i) (tCons (rdE K pro (run W a)) tNil) σ H Q := by
  obtain ⟨A, r, F, o, r', ok, fit, hm, q⟩ := h
  unfold run at hm
  obtain ⟨s, hs, hm⟩ := bindS hm
  dsimp only at hm
  split at hm
  · rename_i hl
    obtain ⟨⟨oa, r1⟩, ha, hm⟩ := bindS hm
    obtain ⟨d, hd, hm⟩ := bindS hm
    obtain ⟨v, ev, _⟩ := fit.slot i s (look_some hs)
    refine ⟨v, ev, fit.tyL hs ev hl ok.k, A, r, F, oa, r1, ok, fit, ha, fun v1 F1 H1 s1 f1 k1 => ?_⟩
    obtain ⟨F1', s1', f1', h1⟩ := f1.hold k1
    have g1 := Held.seen f1' h1 hd
    have fin : ∀ (ds : List Dat) (m : Mu) (k : Int) (j : Nat) (x : Dat), m ≠ .fz → look r1 i = some ⟨.lst ds, m⟩ → d = .int k → ixN ds.length k = some j → ds[j]? = some x → o = .val x → r' = r1.set i (some ⟨.lst (ds.eraseIdx j), m⟩) → rPopAt v [v1] H1 Q := by
      rintro ds m k j x mz hi rfl hj hx rfl rfl
      have hi' := look_some hi
      obtain ⟨w, w1, w2⟩ := f1'.slot i _ hi'
      rw [ev] at w1
      cases w1
      obtain ⟨b, rfl⟩ := w2.ref mz
      obtain ⟨m1, m2, xs, m3, m4, m5⟩ := w2.mine mz
      have hlen := DenL.length m5
      rw [hlen] at hj
      obtain ⟨j1, j2, j3⟩ := ix_small hj m4
      obtain ⟨y, hy, dy⟩ := DenL.getD m5 hx
      refine ⟨b, xs, k, j, y, rfl, by rw [show v1 = V.int k from g1], m3, j2, j3, j1, hy, ?_⟩
      have fr := f1'.rewrite (xs := xs.eraseIdx j) hi' mz ev (Nat.le_trans (len_erase xs j) m4) (DenL.erase j m5)
      exact q y F1' _ (s1.trans s1') fr dy
    split at hm
    · rename_i ds k hi
      obtain ⟨j, hj, hm⟩ := bindS hm
      obtain ⟨x, hx, hm⟩ := bindS hm
      cases hm
      exact fin ds .own k j x (by decide) hi rfl hj hx rfl rfl
    · rename_i ds k hi
      obtain ⟨j, hj, hm⟩ := bindS hm
      obtain ⟨x, hx, hm⟩ := bindS hm
      cases hm
      exact fin ds .io k j x (by decide) hi rfl hj hx rfl rfl
    · cases hm
  · cases hm
/-- xs.append(x) -/
theorem imp_app {i : Nat} {a : E} {σ : L2.St} {H : Hp} {Q : VK} (h : rdE K pro (run W (.app i a)) σ H Q) :
    tBM K "list" rAppend (tVar i) (tCons (rdE K pro (run W a)) tNil) σ H Q := by
  obtain ⟨A, r, F, o, r', ok, fit, hm, q⟩ := h
  unfold run at hm
  obtain ⟨s, hs, hm⟩ := bindS hm
  dsimp only at hm
  split at hm
  · rename_i hl
    obtain ⟨⟨oa, r1⟩, ha, hm⟩ := bindS hm
    obtain ⟨⟨x, r2⟩, hd, hm⟩ := bindS hm
    obtain ⟨v, ev, _⟩ := fit.slot i s (look_some hs)
    refine ⟨v, ev, fit.tyL hs ev hl ok.k, A, r, F, oa, r1, ok, fit, ha, fun v1 F1 H1 s1 f1 k1 => ?_⟩
    obtain ⟨F1', s1', f1', h1⟩ := f1.frz k1 hd
    have fin : ∀ (ds : List Dat) (m : Mu), m ≠ .fz → look r2 i = some ⟨.lst ds, m⟩ → ds.length < sizeLine → o = .val .non → r' = r2.set i (some ⟨.lst (ds ++ [x]), m⟩) → rAppend v [v1] H1 Q := by
      rintro ds m mz hi hj rfl rfl
      have hi' := look_some hi
      obtain ⟨w, w1, w2⟩ := f1'.slot i _ hi'
      rw [ev] at w1
      cases w1
      obtain ⟨b, rfl⟩ := w2.ref mz
      obtain ⟨m1, m2, xs, m3, m4, m5⟩ := w2.mine mz
      have hlen := DenL.length m5
      refine ⟨b, xs, v1, rfl, rfl, m3, by omega, ?_⟩
      have fr := f1'.rewrite (xs := xs ++ [v1]) hi' mz ev (by rw [List.length_append, List.length_singleton]; omega) (DenL.app m5 (DenL.one h1))
      exact q .non F1' _ (s1.trans s1') fr rfl
    dsimp only at hm
    split at hm
    · rename_i ds hi
      split at hm
      · rename_i hz
        cases hm
        exact fin ds .own (by decide) hi hz rfl rfl
      · cases hm
    · rename_i ds hi
      split at hm
      · rename_i hz
        cases hm
        exact fin ds .io (by decide) hi hz rfl rfl
      · cases hm
    · cases hm
  · cases hm
/-- xs[k] = e -/
theorem imp_setAt {n : Nat} {i : Nat} {ix e : E} {D : Ends} {σ : L2.St} {H : Hp} (h : rdS K pro (runS W n (.setAt i ix e)) D σ H) :
    tAsg (rdE K pro (run W e)) (gSub (tVar i) (rdE K pro (run W ix)) rSetL) D σ H := by
  obtain ⟨A, r, F, fl, ok, fit, hm, q⟩ := h
  unfold runS at hm
  obtain ⟨⟨oa, r1⟩, ha, hm⟩ := bindS hm
  obtain ⟨⟨x, r2⟩, hd, hm⟩ := bindS hm
  obtain ⟨s0, hs0, hm⟩ := bindS hm
  obtain ⟨⟨ob, r3⟩, hb, hm⟩ := bindS hm
  dsimp only at hm
  refine ⟨A, r, F, oa, r1, ok, fit, ha, fun v1 F1 H1 s1 f1 k1 => ?_⟩
  obtain ⟨F1', s1', f1', h1⟩ := f1.frz k1 hd
  obtain ⟨v0, ev0, _⟩ := f1'.slot i s0 (look_some hs0)
  have fin : ∀ (ds : List Dat) (m : Mu) (k : Int) (j : Nat), m ≠ .fz → look r3 i = some ⟨.lst ds, m⟩ → res r3 ob = some (.int k) → ixN ds.length k = some j → fl = .next (r3.set i (some ⟨.lst (ds.set j x), m⟩)) →
      (∃ v, σ[i]? = some (some v)) → gSub (tVar i) (rdE K pro (run W ix)) rSetL v1 σ H1 D.nx := by
    rintro ds m k j mz hi hk hj rfl ⟨v, ev⟩
    have hi' := look_some hi
    refine ⟨v, ev, A, r2, F1', ob, r3, ok, f1', hb, fun v2 F2 H2 s2 f2 k2 => ?_⟩
    obtain ⟨F2', s2', f2', h2⟩ := f2.hold k2
    have g1 := Held.seen f2' h2 hk
    obtain ⟨w, w1, w2⟩ := f2'.slot i _ hi'
    rw [ev] at w1
    cases w1
    obtain ⟨b, rfl⟩ := w2.ref mz
    obtain ⟨m1, m2, xs, m3, m4, m5⟩ := w2.mine mz
    have hlen := DenL.length m5
    rw [hlen] at hj
    refine ⟨b, xs, k, j, rfl, g1, m3, hj, ?_⟩
    have fr := f2'.rewrite (xs := xs.set j v1) hi' mz ev (by rw [List.length_set]; exact m4) (DenL.set (Den.mono (s2.trans s2') _ h1) j m5)
    exact q σ F2' _ ((s1.trans s1').trans (s2.trans s2')) fr
  split at hm
  · rename_i ds k hi hk
    obtain ⟨j, hj, hm⟩ := bindS hm
    cases hm
    exact fin ds .own k j (by decide) hi hk hj rfl ⟨v0, ev0⟩
  · rename_i ds k hi hk
    obtain ⟨j, hj, hm⟩ := bindS hm
    cases hm
    exact fin ds .io k j (by decide) hi hk hj rfl ⟨v0, ev0⟩
  · cases hm

/-! ### targets -/
def gNames : List Nat → TGs
  | [] => gNil
  | i :: is => gCons (gName i) (gNames is)
def gT (K : PySem.W.Frag) : Tg → TG
  | .name i => gName i
  | .tup is => gTup K is.length (gNames is)
def tgSlots : Tg → List Nat
  | .name i => [i]
  | .tup is => is
theorem putAll_ok {A : Fr} {F H : Hp} {Q : L2.St → Hp → Prop} : ∀ {is : List Nat} {ds : List Dat} {xs : List V} {r r' : Rho} {σ : L2.St}, Fit A r F σ H → DenL A.K F ds xs → putAll r is ds = some r' → (∀ p ∈ A.pro, p.1 ∉ is) →
    (∀ σ', σ'.length = σ.length → (∀ j, j ∉ is → σ'[j]? = σ[j]?) → Fit A r' F σ' H → Q σ' H) → xs.length = is.length ∧ gNames is xs σ H Q
  | [], [], xs, r, r', σ, fit, hd, hp, hpr, q => by
    have hd : xs = [] := hd
    subst hd
    cases hp
    exact ⟨rfl, rfl, q σ rfl (fun _ _ => rfl) fit⟩
  | i :: is, d :: ds, xs, r, r', σ, fit, hd, hp, hpr, q => by
    obtain ⟨v, vs, rfl, h1, h2⟩ := hd
    have f1 := fit.put (i := i) (s := ⟨d, .fz⟩) (v := v) (fun p hpp z => hpr p hpp (by rw [z]; exact List.mem_cons_self)) h1 fun z => absurd rfl z
    obtain ⟨l, g⟩ := putAll_ok (Q := Q) (is := is) f1 h2 hp (fun p hpp z => hpr p hpp (List.mem_cons_of_mem _ z)) fun σ' hl hs f' => q σ' (by rw [hl, List.length_set]) (fun j hj => by
      rw [hs j fun z => hj (List.mem_cons_of_mem _ z), List.getElem?_set_ne fun z => hj (by rw [z]; exact List.mem_cons_self)]) f'
    exact ⟨by rw [List.length_cons, List.length_cons, l], v, vs, rfl, g⟩
  | [], _ :: _, _, _, _, _, _, _, hp, _, _ => by cases hp
  | _ :: _, [], _, _, _, _, _, _, hp, _, _ => by cases hp
theorem bind_ok {A : Fr} {F H : Hp} {Q : L2.St → Hp → Prop} {tg : Tg} {d : Dat} {v : V} {r r' : Rho} {σ : L2.St} (fit : Fit A r F σ H) (hd : Den A.K F d v) (hp : bindT r tg d = some r') (hpr : ∀ p ∈ A.pro, p.1 ∉ tgSlots tg)
    (q : ∀ σ', σ'.length = σ.length → (∀ j, j ∉ tgSlots tg → σ'[j]? = σ[j]?) → Fit A r' F σ' H → Q σ' H) : gT A.K tg v σ H Q := by
  cases tg with
  | name i =>
    cases hp
    have f1 := fit.put (i := i) (s := ⟨d, .fz⟩) (v := v) (fun p hpp z => hpr p hpp (by rw [z]; exact List.mem_cons_self)) hd fun z => absurd rfl z
    exact q _ (by rw [List.length_set]) (fun j hj => List.getElem?_set_ne fun z => hj (by rw [z]; exact List.mem_cons_self)) f1
  | tup is =>
    cases d with
    | tup ds =>
      obtain ⟨a, xs, rfl, hx, lx, h2⟩ := hd
      obtain ⟨l, g⟩ := putAll_ok (Q := Q) fit h2 hp hpr q
      exact ⟨a, xs, rfl, Same.seqT fit.sub hx, l, g⟩
    | _ => cases hp

/-! ### what is walked -/
/-- one item: a settled datum, or a new tuple of such -/
def Step (K : PySem.W.Frag) (F H : Hp) (x : V) (H' : Hp) (d : Dat) : Prop := NewOk K F H x H' (.val d)
structure JW (K : PySem.W.Frag) (F : Hp) (J : It) (ds : List Dat) : Prop where
  small : ds.length ≤ sizeLine
  go : ∀ i H, Same F H → i < ds.length → J.go i H
  yld : ∀ i d H x H', Same F H → ds[i]? = some d → J.yld i H x H' → ∃ F', New K F H F' H' ∧ Den K F' d x
  stop : ∀ i H, Same F H → ds.length ≤ i → J.stop i H
def rdI (K : PySem.W.Frag) (pro : List Nat) (m : Rho → Option (List Dat × Rho)) : TI := fun σ H R => ∃ A r F ds r', Ok K pro A ∧ Fit A r F σ H ∧ m r = some (ds, r') ∧ ∀ J F' H', Same F F' → Fit A r' F' σ H' → JW A.K F' J ds → R J H'
theorem jw_list {F H : Hp} {a : Addr} {xs : List V} {ds : List Dat} (h : SqL K F a xs) (l : xs.length ≤ sizeLine) (r : DenL K F ds xs) : JW K F (Itl K a) ds where
  small := by rw [DenL.length r]; exact l
  go := fun i H s hi => by
    rw [DenL.length r] at hi
    exact ⟨xs, xs[i], s.seq h, List.getElem?_eq_getElem hi⟩
  yld := fun i d H x H' s hd y => by
    obtain ⟨e, y⟩ := y
    subst e
    obtain ⟨x', hx, dx⟩ := DenL.getD r hd
    rw [y xs (s.seq h)] at hx
    cases hx
    exact ⟨F, New.refl s, dx⟩
  stop := fun i H s hi => ⟨xs, s.seq h, by rw [← DenL.length r]; exact hi⟩
theorem jw_tup {F H : Hp} {a : Addr} {xs : List V} {ds : List Dat} (h : SqT K F a xs) (l : xs.length ≤ sizeLine) (r : DenL K F ds xs) : JW K F (Itt K a) ds where
  small := by rw [DenL.length r]; exact l
  go := fun i H s hi => by
    rw [DenL.length r] at hi
    exact ⟨xs, xs[i], Same.seqT s h, List.getElem?_eq_getElem hi⟩
  yld := fun i d H x H' s hd y => by
    obtain ⟨e, y⟩ := y
    subst e
    obtain ⟨x', hx, dx⟩ := DenL.getD r hd
    rw [y xs (Same.seqT s h)] at hx
    cases hx
    exact ⟨F, New.refl s, dx⟩
  stop := fun i H s hi => ⟨xs, Same.seqT s h, by rw [← DenL.length r]; exact hi⟩
theorem jw_str {F : Hp} {x : Str} (l : x.length ≤ sizeLine) : JW K F (Its x) ((signs x).map .str) where
  small := by
    unfold signs
    rw [List.length_map, List.length_map, Array.length_toList]
    exact l
  go := fun i H s hi => by
    unfold signs at hi
    rw [List.length_map, List.length_map, Array.length_toList] at hi
    exact hi
  yld := fun i d H v H' s hd y => by
    obtain ⟨e, c, hc, rfl⟩ := y
    subst e
    unfold signs at hd
    rw [List.map_map, List.getElem?_map, Array.getElem?_toList, hc] at hd
    cases hd
    exact ⟨F, New.refl s, rfl, by show (1 : Nat) ≤ sizeLine; decide⟩
  stop := fun i H s hi => by
    unfold signs at hi
    rw [List.length_map, List.length_map, Array.length_toList] at hi
    exact hi
theorem jw_range {F : Hp} {lo : Int} {n : Nat} (l : n ≤ sizeLine) : JW K F (Itr lo n) (rangeD lo n) where
  small := by
    unfold rangeD
    rw [List.length_map, List.length_range]
    exact l
  go := fun i H s hi => by
    unfold rangeD at hi
    rw [List.length_map, List.length_range] at hi
    exact hi
  yld := fun i d H v H' s hd y => by
    obtain ⟨e, rfl⟩ := y
    subst e
    unfold rangeD at hd
    rw [List.getElem?_map] at hd
    cases hr : (List.range n)[i]? with
    | none => rw [hr] at hd; cases hd
    | some k =>
      rw [hr] at hd
      cases hd
      have hk := List.getElem?_eq_some_iff.mp hr
      obtain ⟨h1, h2⟩ := hk
      rw [List.getElem_range] at h2
      subst h2
      exact ⟨F, New.refl s, rfl⟩
  stop := fun i H s hi => by
    unfold rangeD at hi
    rw [List.length_map, List.length_range] at hi
    exact hi
/-- over a list, a tuple, a text -/
theorem pi_seq {X : Cx} {tg e : Expr} {ir : E} (hK : X.K = K) (h : PE X e (rdE K pro (run W ir))) : PI X tg e (rdI K pro (runI W (.seq ir))) := by
  refine ⟨fun pins s σ H R I hr => ?_⟩
  obtain ⟨A, r, F, ds, r', ok, fit, hm, q⟩ := hr
  unfold runI at hm
  obtain ⟨⟨oa, r1⟩, ha, hm⟩ := bindS hm
  obtain ⟨⟨d, r2⟩, hd, hm⟩ := bindS hm
  obtain ⟨ds', hi, hm⟩ := bindS hm
  cases hm
  cases d with
  | lst es =>
    cases hi
    refine (pi_list h).run pins s σ H R I ⟨A, r, F, oa, r1, ok, fit, ha, fun v F1 H1 s1 f1 k1 => ?_⟩
    obtain ⟨F1', s1', f1', a, xs, rfl, hx, lx, rx⟩ := f1.frz k1 hd
    refine ⟨a, rfl, ⟨xs, ?_⟩, ?_⟩
    · rw [hK, ← ok.k]
      exact f1'.sub.seq hx
    · rw [hK, ← ok.k]
      exact q _ F1' H1 (s1.trans s1') f1' (jw_list (H := H1) hx lx rx)
  | tup es =>
    cases hi
    refine (pi_tup h).run pins s σ H R I ⟨A, r, F, oa, r1, ok, fit, ha, fun v F1 H1 s1 f1 k1 => ?_⟩
    obtain ⟨F1', s1', f1', a, xs, rfl, hx, lx, rx⟩ := f1.frz k1 hd
    refine ⟨a, rfl, ⟨xs, ?_⟩, ?_⟩
    · rw [hK, ← ok.k]
      exact Same.seqT f1'.sub hx
    · rw [hK, ← ok.k]
      exact q _ F1' H1 (s1.trans s1') f1' (jw_tup (H := H1) hx lx rx)
  | str z =>
    cases hi
    refine (pi_str h).run pins s σ H R I ⟨A, r, F, oa, r1, ok, fit, ha, fun v F1 H1 s1 f1 k1 => ?_⟩
    obtain ⟨F1', s1', f1', rfl, lx⟩ := f1.frz k1 hd
    exact ⟨z, rfl, q _ F1' H1 (s1.trans s1') f1' (jw_str lx)⟩
  | _ => cases hi
theorem imp_rng1 {a : E} {σ : L2.St} {H : Hp} {R : It → Hp → Prop} (h : rdI K pro (runI W (.rng1 a)) σ H R) : iRng1 (tCons (rdE K pro (run W a)) tNil) σ H R := by
  obtain ⟨A, r, F, ds, r', ok, fit, hm, q⟩ := h
  unfold runI at hm
  obtain ⟨⟨oa, r1⟩, ha, hm⟩ := bindS hm
  dsimp only at hm
  split at hm
  · rename_i n hn
    split at hm
    · rename_i hz
      cases hm
      refine ⟨A, r, F, oa, r', ok, fit, ha, fun v F1 H1 s1 f1 k1 => ?_⟩
      obtain ⟨F1', s1', f1', h1⟩ := f1.hold k1
      have g1 := Held.seen f1' h1 hn
      have hs : sizeLine = 16777216 := sizeLine_eq
      exact ⟨n, by rw [show v = V.int n from g1], hz.1, by omega, q _ F1' H1 (s1.trans s1') f1' (jw_range hz.2)⟩
    · cases hm
  · cases hm
theorem imp_rng2 {a b : E} {σ : L2.St} {H : Hp} {R : It → Hp → Prop} (h : rdI K pro (runI W (.rng2 a b)) σ H R) : iRng2 (tCons (rdE K pro (run W a)) (tCons (rdE K pro (run W b)) tNil)) σ H R := by
  obtain ⟨A, r, F, ds, r', ok, fit, hm, q⟩ := h
  unfold runI at hm
  obtain ⟨⟨oa, r1⟩, ha, hm⟩ := bindS hm
  obtain ⟨⟨ob, r2⟩, hb, hm⟩ := bindS hm
  dsimp only at hm
  split at hm
  · rename_i i j hi hj
    split at hm
    · rename_i hz
      cases hm
      refine ⟨A, r, F, oa, r1, ok, fit, ha, fun v F1 H1 s1 f1 k1 => ?_⟩
      obtain ⟨F1', s1', f1', h1⟩ := f1.hold k1
      refine ⟨A, r1, F1', ob, r', ok, f1', hb, fun v2 F2 H2 s2 f2 k2 => ?_⟩
      obtain ⟨F2', s2', f2', h2⟩ := f2.hold k2
      have g1 := Held.seen f2' (h1.mono (s2.trans s2')) hi
      have g2 := Held.seen f2' h2 hj
      exact ⟨i, j, by rw [show v = V.int i from g1, show v2 = V.int j from g2], ⟨hz.1, hz.2.1, hz.2.2.1, hz.2.2.2.1⟩, q _ F2' H2 ((s1.trans s1').trans (s2.trans s2')) f2' (jw_range hz.2.2.2.2)⟩
    · cases hm
  · cases hm

/-! ### slots wiped -/
theorem wipeR_len (r : Rho) : ∀ is : List Nat, (wipeR r is).length = r.length
  | [] => rfl
  | i :: is => by unfold wipeR; rw [List.length_set, wipeR_len r is]
theorem wipeR_get {r : Rho} {j : Nat} {s : Sl} : ∀ {is : List Nat}, (wipeR r is)[j]? = some (some s) → r[j]? = some (some s) ∧ j ∉ is
  | [], h => ⟨h, by simp⟩
  | i :: is, h => by
    unfold wipeR at h
    rcases set_get h with ⟨_, z⟩ | ⟨n, z⟩
    · cases z
    · obtain ⟨h1, h2⟩ := wipeR_get z
      exact ⟨h1, by simp only [List.mem_cons, not_or]; exact ⟨n, h2⟩⟩
theorem Fit.wiped {A : Fr} {r : Rho} {F H : Hp} {σ : L2.St} (h : Fit A r F σ H) (is : List Nat) : Fit A (wipeR r is) F σ H := h.less (wipeR_len r is) fun _ _ e => (wipeR_get e).1
theorem wipe_ne (σ : L2.St) {j : Nat} : ∀ {is : List Nat}, j ∉ is → (wipe σ is)[j]? = σ[j]?
  | [], _ => rfl
  | i :: is, h => by
    unfold wipe
    rw [List.getElem?_set_ne (fun z => h (by rw [z]; exact List.mem_cons_self))]
    exact wipe_ne σ fun z => h (List.mem_cons_of_mem _ z)
theorem wipe_in (σ : L2.St) {j : Nat} : ∀ {is : List Nat}, j ∈ is → (wipe σ is)[j]? = if j < σ.length then some none else none
  | i :: is, h => by
    unfold wipe
    by_cases e : i = j
    · subst e
      rw [List.getElem?_set_self']
      by_cases hi : i < σ.length
      · rw [if_pos hi]
        have : i < (wipe σ is).length := by rw [wipe_length]; exact hi
        rw [List.getElem?_eq_getElem this]
        rfl
      · rw [if_neg hi]
        have : ¬ i < (wipe σ is).length := by rw [wipe_length]; exact hi
        rw [List.getElem?_eq_none (by omega)]
        rfl
    · rw [List.getElem?_set_ne e]
      rcases List.mem_cons.mp h with z | z
      · exact absurd z.symm e
      · exact wipe_in σ z
theorem wipe_eq {σ σ' : L2.St} {is : List Nat} (hl : σ'.length = σ.length) (h : ∀ j, j ∉ is → σ'[j]? = σ[j]?) : wipe σ' is = wipe σ is := by
  refine List.ext_getElem? fun j => ?_
  by_cases hj : j ∈ is
  · rw [wipe_in _ hj, wipe_in _ hj, hl]
  · rw [wipe_ne _ hj, wipe_ne _ hj, h j hj]
theorem Fit.toWipe {A : Fr} {r : Rho} {F H : Hp} {σ : L2.St} (h : Fit A r F σ H) {is : List Nat} (hp : ∀ p ∈ A.pro, p.1 ∉ is) : Fit A (wipeR r is) F (wipe σ is) H :=
  h.moved (by rw [wipeR_len, wipe_length, h.len]) (fun j s e => ⟨(wipeR_get e).1, wipe_ne σ (wipeR_get e).2⟩) fun p hpp => by rw [wipe_ne σ (hp p hpp)]; exact h.pro p hpp

/-! ### comprehensions -/
theorem back_len (r₁ r : Rho) : ∀ is : List Nat, (back r₁ r is).length = r.length
  | [] => rfl
  | i :: is => by unfold back; rw [List.length_set, back_len r₁ r is]
theorem back_get {r₁ r : Rho} {j : Nat} {s : Sl} : ∀ {is : List Nat}, (back r₁ r is)[j]? = some (some s) → (r[j]? = some (some s) ∧ j ∉ is) ∨ (j ∈ is ∧ r₁[j]? = some (some s) ∧ s.m = .fz)
  | [], h => .inl ⟨h, by simp⟩
  | i :: is, h => by
    unfold back at h
    rcases set_get h with ⟨rfl, z⟩ | ⟨n, z⟩
    · refine .inr ⟨List.mem_cons_self, ?_⟩
      split at z
      · rename_i d hl
        cases z
        exact ⟨look_some hl, rfl⟩
      · cases z
    · rcases back_get z with ⟨h1, h2⟩ | ⟨h1, h2⟩
      · exact .inl ⟨h1, by simp only [List.mem_cons, not_or]; exact ⟨n, h2⟩⟩
      · exact .inr ⟨List.mem_cons_of_mem _ h1, h2⟩
/-- behind the block the slots are as they were ahead of it -/
theorem Fit.back {A : Fr} {r₁ r : Rho} {F₁ F H₁ H : Hp} {σ : L2.St} {is : List Nat} (h₁ : Fit A r₁ F₁ σ H₁) (sf : Same F₁ F) (h : Fit A r F (wipe σ is) H) : Fit A (Dl.back r₁ r is) F σ H := by
  refine ⟨h.sub, h.keep, h.newf, h.f0, h.ioh, fun j s e => ?_, fun j k s t a n e1 m1 e2 m2 s1 s2 => ?_, h₁.pro, by rw [back_len, h.len, wipe_length]⟩
  · rcases back_get e with ⟨q1, q2⟩ | ⟨_, q2, q3⟩
    · obtain ⟨v, e1, e2⟩ := h.slot j s q1
      rw [wipe_ne σ q2] at e1
      exact ⟨v, e1, e2⟩
    · obtain ⟨v, e1, e2⟩ := h₁.slot j s q2
      refine ⟨v, e1, ?_⟩
      unfold SlotOk at e2 ⊢
      rw [q3] at e2 ⊢
      exact Den.mono sf _ e2
  · rcases back_get e1 with ⟨q1, q2⟩ | ⟨_, _, q3⟩
    · rcases back_get e2 with ⟨p1, p2⟩ | ⟨_, _, p3⟩
      · rw [← wipe_ne σ q2] at s1
        rw [← wipe_ne σ p2] at s2
        exact h.sep j k s t a n q1 m1 p1 m2 s1 s2
      · exact m2 p3
    · exact m1 q3
/-- the turn of a comprehension -/
def turnC (W : Wd) (own : List Nat) (tg : Tg) (c : Ot) (elt : E) (d : Dat) (r : Rho) : Option (Option Dat × Rho) := do
  let r ← bindT r tg d
  let (t, r) ← runOt W c r
  if t = true then
    let (o, r) ← run W elt r
    let (x, r) ← frz r o
    some (some x, wipeR r own)
  else some (none, wipeR r own)
theorem imp_comp {own : List Nat} {tg : Tg} {src : Src} {c : Ot} {elt : E} {σ : L2.St} {H : Hp} {Q : VK} (ho : ∀ i ∈ tgSlots tg, i ∈ own) (hp : ∀ i ∈ pro, i ∉ own)
    (h : rdE K pro (run W (.comp own tg src c elt)) σ H Q) : tLc (rdI K pro (runI W src)) (gT K tg) (rdT K pro (runOt W c)) (rdE K pro (run W elt)) own σ H Q := by
  obtain ⟨A, r, F, o, r', ok, fit, hm, q⟩ := h
  unfold run at hm
  obtain ⟨⟨ds, r1⟩, hs, hm⟩ := bindS hm
  have hm : ((compD (turnC W own tg c elt) ds (wipeR r1 own)).bind fun z => some (Out.fresh (.lst z.1), Dl.back r1 z.2 own)) = some (o, r') := hm
  obtain ⟨⟨xs, r2⟩, hc, hm⟩ := bindS hm
  cases hm
  have hpr : ∀ p ∈ A.pro, p.1 ∉ own := fun p hpp => hp _ (ok.p p hpp)
  refine ⟨A, r, F, ds, r1, ok, fit, hs, fun J F1 H1 s1 f1 jw => ?_⟩
  intro D hD
  have fD : F1 D = none := f1.sub.free hD
  obtain ⟨h0D, ioD⟩ := f1.free hD
  have f0D : A.F0 D = none := f1.f0.free fD
  have mD : ¬ Mine r1 σ D := fun m => by
    obtain ⟨_, _, u, z⟩ := f1.mine m
    rw [hD] at z
    cases z
  -- the state ahead of turn i: acc is what stands at D
  refine ⟨fun i m Hi => i + m = ds.length ∧ ∃ (ri : Rho) (Fi : Hp) (acc : List V) (ys zs : List Dat), Same F1 Fi ∧ Fit A ri Fi (wipe σ own) Hi ∧ Hi D = some (.lst acc) ∧ Fi D = none ∧ ¬ Mine ri (wipe σ own) D ∧ DenL A.K Fi ys acc ∧ acc.length ≤ i ∧
      compD (turnC W own tg c elt) (ds.drop i) ri = some (zs, r2) ∧ xs = ys ++ zs, ⟨ds.length, by omega, wipeR r1 own, F1, [], [], xs, Same.refl F1, ?_, upd_same, fD, ?_, rfl, Nat.le_refl _, by rw [List.drop_zero]; exact hc, rfl⟩, ?_⟩
  · refine (f1.toWipe hpr).grow ⟨Same.refl F1, fun b u e => ?_, same_upd hD, fun _ _ e => .inl e⟩
    exact same_upd hD b u (f1.sub b u e)
  · intro m
    obtain ⟨i, s, e1, e2, e3⟩ := m
    obtain ⟨w1, w2⟩ := wipeR_get e1
    rw [wipe_ne σ w2] at e3
    exact mD ⟨i, s, w1, e2, e3⟩
  · rintro i m Hi ⟨him, ri, Fi, acc, ys, zs, sFi, fi, hDi, fDi, mDi, dl, la, hci, rfl⟩
    by_cases hi : i < ds.length
    · refine .inr ⟨jw.go i Hi (sFi.trans fi.sub) hi, fun Hn => ∃ (rn : Rho) (Fn : Hp) (an : List V) (yn zn : List Dat), Same F1 Fn ∧ Fit A rn Fn (wipe σ own) Hn ∧ Hn D = some (.lst an) ∧ Fn D = none ∧ ¬ Mine rn (wipe σ own) D ∧ DenL A.K Fn yn an ∧ an.length ≤ i + 1 ∧
          compD (turnC W own tg c elt) (ds.drop (i + 1)) rn = some (zn, r2) ∧ ys ++ zs = yn ++ zn, ?_, ?_⟩
      · rintro Hn ⟨rn, Fn, an, yn, zn, g⟩
        exact ⟨m - 1, by omega, by omega, rn, Fn, an, yn, zn, g⟩
      · intro x Hx hy
        obtain ⟨d, hd⟩ : ∃ d, ds[i]? = some d := ⟨ds[i], List.getElem?_eq_getElem hi⟩
        rw [List.drop_eq_getElem_cons hi] at hci
        have hdi : ds[i] = d := by
          rw [List.getElem?_eq_getElem hi] at hd
          exact Option.some.inj hd
        rw [hdi] at hci
        unfold compD at hci
        obtain ⟨⟨ox, rt⟩, ht, hci⟩ := bindS hci
        obtain ⟨⟨zr, r3⟩, hr, hci⟩ := bindS hci
        cases hci
        unfold turnC at ht
        obtain ⟨rb, hb, ht⟩ := bindS ht
        obtain ⟨⟨t, rc⟩, hcd, ht⟩ := bindS ht
        dsimp only at ht
        -- the item
        obtain ⟨Fx0, nx0, dx0⟩ := jw.yld i d Hi x Hx (sFi.trans fi.sub) hd hy
        have nx : New A.K Fi Hi (fun b => match Fi b with | some u => some u | none => Fx0 b) Hx := by
          refine ⟨fun b u e => by simp only [e], fun b u e => ?_, nx0.hh, fun b u e => ?_⟩
          · cases q1 : Fi b with
            | some w =>
              simp only [q1] at e
              cases e
              exact nx0.hh _ _ (fi.sub _ _ q1)
            | none =>
              simp only [q1] at e
              exact nx0.fh _ _ e
          · cases q1 : Fi b with
            | some w =>
              simp only [q1] at e
              cases e
              exact .inl rfl
            | none =>
              simp only [q1] at e
              rcases nx0.nw b u e with z | z
              · exact absurd (sFi b u z) (by rw [q1]; exact fun w => nomatch w)
              · exact .inr z
        generalize hFx : (fun b => match Fi b with | some u => some u | none => Fx0 b) = Fx at nx
        have sx : Same Fx0 Fx := fun b u e => by
          rw [← hFx]
          cases q1 : Fi b with
          | none => simp only [q1]; exact e
          | some w =>
            simp only [q1]
            rw [← nx0.fh b u e, nx0.hh b w (fi.sub b w q1)]
        have dx := Den.mono sx d dx0
        have fx := fi.grow nx
        have hDx := nx.hh _ _ hDi
        have fDx : Fx D = none := by
          cases q1 : Fx D with
          | none => rfl
          | some u =>
            rcases nx.nw D u q1 with z | z
            · rw [fDi] at z; cases z
            · rw [hDi] at z; cases z
        -- the new list stays while the turn runs
        have gx := fx.guard hDx fDx ioD mDi
        rw [← ok.k]
        refine bind_ok (A := A.guard D (.lst acc)) gx dx hb (fun p hpp z => hpr p hpp (ho _ z)) fun σ2 hl hag f2 => ?_
        refine ⟨wipe_eq (by rw [hl, wipe_length]) fun j hj => by rw [hag j fun z => hj (ho j z), wipe_ne σ hj], ?_⟩
        have fin : ∀ (rn : Rho) (Fn Hn : Hp), Same Fx Fn → Fit (A.guard D (.lst acc)) rn Fn σ2 Hn → Fit A (wipeR rn own) Fn (wipe σ own) Hn ∧ Hn D = some (.lst acc) ∧ Fn D = none ∧ ¬ Mine (wipeR rn own) (wipe σ own) D := by
          intro rn Fn Hn sn fn
          have fw : Fit (A.guard D (.lst acc)) (wipeR rn own) Fn (wipe σ own) Hn := by
            refine fn.moved (by rw [wipeR_len, wipe_length, fn.len, hl, wipe_length]) (fun j s e => ⟨(wipeR_get e).1, ?_⟩) fun p hpp => ?_
            · have hj := (wipeR_get e).2
              rw [hag j fun z => hj (ho j z)]
            · have := fi.pro p hpp
              exact this
          exact fw.unguard h0D f0D ioD
        refine ⟨A.guard D (.lst acc), rb, Fx, t, rc, ⟨rfl, ok.p⟩, f2, hcd, fun F3 H3 s3 f3 => ?_⟩
        cases t with
        | true =>
          rw [if_pos rfl] at ht ⊢
          obtain ⟨⟨oe, re⟩, he, ht⟩ := bindS ht
          obtain ⟨⟨xe, rf⟩, hf, ht⟩ := bindS ht
          cases ht
          refine ⟨A.guard D (.lst acc), rc, F3, oe, re, ⟨rfl, ok.p⟩, f3, he, fun v4 F4 H4 s4 f4 k4 => ?_⟩
          obtain ⟨F4', s4', f4', h4⟩ := f4.frz k4 hf
          obtain ⟨w1, w2, w3, w4⟩ := fin rf F4' H4 (s3.trans (s4.trans s4')) f4'
          have sAll : Same Fi F4' := nx.ff.trans (s3.trans (s4.trans s4'))
          have hacc : acc.length < sizeLine := by
            have := jw.small
            omega
          refine ⟨acc, w2, hacc, wipeR rf own, F4', acc ++ [v4], ys ++ [xe], zr, sFi.trans sAll, ?_, upd_same, w3, w4, DenL.app (DenL.mono sAll _ dl) (DenL.one h4), by rw [List.length_append, List.length_singleton]; omega, hr, by rw [List.append_assoc]; rfl⟩
          exact w1.changed (a := D) (Same.refl F4') (fun b u e => by rw [upd_ne (fun z => by rw [z, w3] at e; cases e)]; exact w1.sub b u e) (fun b u e nb => by rw [upd_ne nb]; exact e) (fun _ _ e => .inl e) ⟨_, upd_same⟩ (.inl h0D) w4
        | false =>
          rw [if_neg Bool.false_ne_true] at ht ⊢
          cases ht
          obtain ⟨w1, w2, w3, w4⟩ := fin rc F3 H3 s3 f3
          exact ⟨wipeR rc own, F3, acc, ys, zr, sFi.trans (nx.ff.trans s3), w1, w2, w3, w4, DenL.mono (nx.ff.trans s3) _ dl, by omega, hr, rfl⟩
    · refine .inl ⟨jw.stop i Hi (sFi.trans fi.sub) (by omega), ?_⟩
      rw [List.drop_eq_nil_of_le (by omega)] at hci
      cases hci
      rw [List.append_nil] at q
      have fb := f1.back (F₁ := F1) sFi fi
      refine q (.ref D) Fi Hi (s1.trans sFi) fb ⟨D, rfl, fDi, h0D, ioD, ⟨acc, hDi, by have := jw.small; omega, dl⟩, fun mm => ?_⟩
      obtain ⟨j, s, e1, e2, e3⟩ := mm
      rcases back_get e1 with ⟨p1, p2⟩ | ⟨_, _, p3⟩
      · rw [← wipe_ne σ p2] at e3
        exact mDi ⟨j, s, p1, e2, e3⟩
      · exact e2 p3

/-! ### statements -/
theorem imp_next {D : Ends} {σ : L2.St} {H : Hp} {m : Rho → Option Fl} (hm : ∀ r, m r = some (.next r)) (h : rdS K pro m D σ H) : tNext D σ H := by
  obtain ⟨A, r, F, fl, ok, fit, h1, q⟩ := h
  rw [hm] at h1
  cases h1
  exact q σ F H (Same.refl F) fit
theorem imp_brk {n : Nat} {D : Ends} {σ : L2.St} {H : Hp} (h : rdS K pro (runS W n .brk) D σ H) : tBreak D σ H := by
  obtain ⟨A, r, F, fl, ok, fit, h1, q⟩ := h
  unfold runS at h1
  cases h1
  exact q σ F H (Same.refl F) fit
theorem imp_cont {n : Nat} {D : Ends} {σ : L2.St} {H : Hp} (h : rdS K pro (runS W n .cont) D σ H) : tCont D σ H := by
  obtain ⟨A, r, F, fl, ok, fit, h1, q⟩ := h
  unfold runS at h1
  cases h1
  exact q σ F H (Same.refl F) fit
theorem imp_retN {n : Nat} {D : Ends} {σ : L2.St} {H : Hp} (h : rdS K pro (runS W n .retN) D σ H) : tRetN D σ H := by
  obtain ⟨A, r, F, fl, ok, fit, h1, q⟩ := h
  unfold runS at h1
  cases h1
  exact q .non σ F H (Same.refl F) fit rfl
theorem imp_ret {n : Nat} {e : E} {D : Ends} {σ : L2.St} {H : Hp} (h : rdS K pro (runS W n (.ret e)) D σ H) : tRet (rdE K pro (run W e)) D σ H := by
  obtain ⟨A, r, F, fl, ok, fit, h1, q⟩ := h
  unfold runS at h1
  obtain ⟨⟨o, r1⟩, ha, h1⟩ := bindS h1
  cases h1
  exact ⟨A, r, F, o, r1, ok, fit, ha, fun v F' H' s f k => q v σ F' H' s f k⟩
theorem imp_expr {n : Nat} {e : E} {D : Ends} {σ : L2.St} {H : Hp} (h : rdS K pro (runS W n (.expr e)) D σ H) : tDrop (rdE K pro (run W e)) D σ H := by
  obtain ⟨A, r, F, fl, ok, fit, h1, q⟩ := h
  unfold runS at h1
  obtain ⟨⟨o, r1⟩, ha, h1⟩ := bindS h1
  cases h1
  exact ⟨A, r, F, o, r1, ok, fit, ha, fun v F' H' s f k => q σ F' H' s f⟩
theorem store_ok3 {A : Fr} {r r' : Rho} {F H : Hp} {σ : L2.St} {i : Nat} {o : Out} {v : V} (fit : Fit A r F σ H) (k : OutOk A r F σ H o v) (hs : store r i o = some r') (hp : ∀ p ∈ A.pro, p.1 ≠ i) : ∃ F', Same F F' ∧ Fit A r' F' (σ.set i (some v)) H := by
  cases o with
  | val d =>
    cases hs
    exact ⟨F, Same.refl F, fit.put hp k fun z => absurd rfl z⟩
  | fresh d =>
    cases hs
    obtain ⟨a, rfl, h1, h2, h3, h4, h5⟩ := k
    exact ⟨F, Same.refl F, fit.put (s := ⟨d, .own⟩) hp ⟨a, rfl, h1, h2, h3, h4⟩ fun _ b eb => by cases eb; exact h5⟩
  | place j =>
    unfold store at hs
    obtain ⟨⟨d, r1⟩, hd, hs⟩ := bindS hs
    cases hs
    obtain ⟨F', s', f', dn⟩ := fit.frz k hd
    exact ⟨F', s', f'.put hp dn fun z => absurd rfl z⟩
theorem imp_set {n : Nat} {i : Nat} {e : E} {D : Ends} {σ : L2.St} {H : Hp} (hp : i ∉ pro) (h : rdS K pro (runS W n (.set i e)) D σ H) : tAsg (rdE K pro (run W e)) (gName i) D σ H := by
  obtain ⟨A, r, F, fl, ok, fit, h1, q⟩ := h
  unfold runS at h1
  obtain ⟨⟨o, r1⟩, ha, h1⟩ := bindS h1
  obtain ⟨r2, hs, h1⟩ := bindS h1
  cases h1
  refine ⟨A, r, F, o, r1, ok, fit, ha, fun v F' H' s f k => ?_⟩
  obtain ⟨F2, s2, f2⟩ := store_ok3 f k hs fun p hpp z => hp (by rw [← z]; exact ok.p p hpp)
  exact q _ F2 H' (s.trans s2) f2
theorem imp_unp {n : Nat} {is : List Nat} {e : E} {D : Ends} {σ : L2.St} {H : Hp} (hp : ∀ i ∈ pro, i ∉ is) (h : rdS K pro (runS W n (.unp is e)) D σ H) : tAsg (rdE K pro (run W e)) (gT K (.tup is)) D σ H := by
  obtain ⟨A, r, F, fl, ok, fit, h1, q⟩ := h
  unfold runS at h1
  obtain ⟨⟨o, r1⟩, ha, h1⟩ := bindS h1
  obtain ⟨⟨d, r2⟩, hd, h1⟩ := bindS h1
  dsimp only at h1
  refine ⟨A, r, F, o, r1, ok, fit, ha, fun v F' H' s f k => ?_⟩
  obtain ⟨F2, s2, f2, dn⟩ := f.frz k hd
  cases d with
  | tup ds =>
    obtain ⟨r3, hs, h1⟩ := bindS h1
    cases h1
    rw [← ok.k]
    exact bind_ok (tg := .tup is) f2 dn hs (fun p hpp z => hp _ (ok.p p hpp) z) fun σ' _ _ f' => q σ' F2 H' (s.trans s2) f'
  | _ => cases h1
theorem imp_aug {n : Nat} {i : Nat} {k : K2} {e : E} {D : Ends} {σ : L2.St} {H : Hp} {ti : TIp} (hp : i ∉ pro)
    (hi : ∀ x y H Q, ((∃ a b, x = V.int a ∧ y = V.int b ∧ ((k = .add ∧ Q (V.int (a + b)) H) ∨ (k = .sub ∧ Q (V.int (a - b)) H))) ∨ (∃ a b, x = V.str a ∧ y = V.str b ∧ k = .add ∧ a.length + b.length ≤ sizeLine ∧ Q (V.str (a ++ b)) H)) → ti x y H Q)
    (h : rdS K pro (runS W n (.aug i k e)) D σ H) : tAug i (rdE K pro (run W e)) ti D σ H := by
  obtain ⟨A, r, F, fl, ok, fit, h1, q⟩ := h
  unfold runS at h1
  obtain ⟨s0, hs0, h1⟩ := bindS h1
  obtain ⟨⟨o, r1⟩, ha, h1⟩ := bindS h1
  dsimp only at h1
  obtain ⟨v0, ev0, _⟩ := fit.slot i s0 (look_some hs0)
  refine ⟨v0, ev0, A, r, F, o, r1, ok, fit, ha, fun v F' H' s f kk => ?_⟩
  obtain ⟨F2, s2, f2, h2⟩ := f.hold kk
  have val : ∀ {x : Dat}, look r1 i = some ⟨x, .fz⟩ → Den A.K F2 x v0 := fun {x} hl => by
    obtain ⟨w, w1, w2⟩ := f2.slot i _ (look_some hl)
    rw [ev0] at w1
    cases w1
    exact w2
  have fin : ∀ {z : Dat} {u : V}, Den A.K F2 z u → fl = .next (r1.set i (some ⟨z, .fz⟩)) → D.nx (σ.set i (some u)) H' := fun {z u} du efl => by
    subst efl
    exact q _ F2 H' (s.trans s2) (f2.put (fun p hpp z => hp (by rw [← z]; exact ok.p p hpp)) du fun z => absurd rfl z)
  split at h1
  · rename_i x y hx hy
    have e1 : v0 = .int x := val hx
    have e2 : v = .int y := Held.seen f2 h2 hy
    split at h1
    · cases h1
      exact hi _ _ _ _ (.inl ⟨x, y, e1, e2, .inl ⟨rfl, fin (z := .int (x + y)) rfl rfl⟩⟩)
    · cases h1
      exact hi _ _ _ _ (.inl ⟨x, y, e1, e2, .inr ⟨rfl, fin (z := .int (x - y)) rfl rfl⟩⟩)
    · cases h1
  · rename_i x y hx hy
    have e1 : v0 = .str x ∧ _ := val hx
    have e2 : v = .str y ∧ _ := Held.seen f2 h2 hy
    split at h1
    · split at h1
      · rename_i hz
        cases h1
        exact hi _ _ _ _ (.inr ⟨x, y, e1.1, e2.1, rfl, hz, fin (z := .str (x ++ y)) ⟨rfl, by rw [TL.len_tl, TL.tl_append, List.length_append, ← TL.len_tl, ← TL.len_tl]; exact hz⟩ rfl⟩)
      · cases h1
    · cases h1
  · cases h1
theorem FlOk.later {A : Fr} {F F' : Hp} {D : Ends} {fl : Fl} (s : Same F F') (q : FlOk A F D fl) : FlOk A F' D fl := by
  cases fl with
  | next _ => exact fun σ' F2 H2 s2 f2 => q σ' F2 H2 (s.trans s2) f2
  | brk _ => exact fun σ' F2 H2 s2 f2 => q σ' F2 H2 (s.trans s2) f2
  | cont _ => exact fun σ' F2 H2 s2 f2 => q σ' F2 H2 (s.trans s2) f2
  | ret _ _ => exact fun v σ' F2 H2 s2 f2 k2 => q v σ' F2 H2 (s.trans s2) f2 k2
theorem imp_ife {n : Nat} {t : T} {a b : Ss} {D : Ends} {σ : L2.St} {H : Hp} (h : rdS K pro (runS W n (.ife t a b)) D σ H) : tIfS (rdT K pro (runT W t)) (rdS K pro (runB W n a)) (rdS K pro (runB W n b)) D σ H := by
  obtain ⟨A, r, F, fl, ok, fit, h1, q⟩ := h
  unfold runS at h1
  obtain ⟨⟨c, r1⟩, ha, h1⟩ := bindS h1
  dsimp only at h1
  refine ⟨A, r, F, c, r1, ok, fit, ha, fun F' H' s f => ?_⟩
  cases c with
  | true => exact iteT ⟨A, r1, F', fl, ok, f, by rw [if_pos rfl] at h1; exact h1, q.later s⟩
  | false => exact iteF ⟨A, r1, F', fl, ok, f, by rw [if_neg Bool.false_ne_true] at h1; exact h1, q.later s⟩
theorem imp_bnil {n : Nat} {D : Ends} {σ : L2.St} {H : Hp} (h : rdS K pro (runB W n .nil) D σ H) : tNext D σ H := imp_next (fun r => by unfold runB; rfl) h
theorem imp_bcons {n : Nat} {s : S} {ss : Ss} {D : Ends} {σ : L2.St} {H : Hp} (h : rdS K pro (runB W n (.cons s ss)) D σ H) : tSeq (rdS K pro (runS W n s)) (rdS K pro (runB W n ss)) D σ H := by
  obtain ⟨A, r, F, fl, ok, fit, h1, q⟩ := h
  unfold runB at h1
  cases hs : runS W n s r with
  | none => rw [hs] at h1; cases h1
  | some f1 =>
    rw [hs] at h1
    refine ⟨A, r, F, f1, ok, fit, hs, ?_⟩
    cases f1 with
    | next r1 => exact fun σ' F' H' s' f' => ⟨A, r1, F', fl, ok, f', h1, q.later s'⟩
    | brk r1 => cases h1; exact q
    | cont r1 => cases h1; exact q
    | ret o r1 => cases h1; exact q
/-- for -/
theorem imp_for {n : Nat} {tg : Tg} {src : Src} {body : Ss} {wp : List Nat} {D : Ends} {σ : L2.St} {H : Hp} (hp : ∀ i ∈ pro, i ∉ tgSlots tg) (h : rdS K pro (runS W n (.for_ tg src body wp)) D σ H) :
    tFor (rdI K pro (runI W src)) (gT K tg) (rdS K pro (runB W n body)) D σ H := by
  obtain ⟨A, r, F, fl, ok, fit, hm, q⟩ := h
  unfold runS at hm
  obtain ⟨⟨ds, r1⟩, hs, hm⟩ := bindS hm
  dsimp only at hm
  refine ⟨A, r, F, ds, r1, ok, fit, hs, fun J F1 H1 s1 f1 jw => ?_⟩
  generalize hf : (fun (d : Dat) (r : Rho) => (do
      let r ← bindT r tg d
      runB W n body r : Option Fl)) = f at hm
  refine ⟨fun i m σi Hi => i + m = ds.length ∧ ∃ (ri : Rho) (Fi : Hp), Same F1 Fi ∧ Fit A ri Fi σi Hi ∧ forD f wp (ds.drop i) ri = some fl, ⟨ds.length, by omega, wipeR r1 wp, F1, Same.refl F1, f1.wiped wp, by rw [List.drop_zero]; exact hm⟩, ?_⟩
  rintro i m σi Hi ⟨him, ri, Fi, sFi, fi, hci⟩
  by_cases hi : i < ds.length
  · refine .inr ⟨jw.go i Hi (sFi.trans fi.sub) hi, fun σn Hn => ∃ (rn : Rho) (Fn : Hp), Same F1 Fn ∧ Fit A rn Fn σn Hn ∧ forD f wp (ds.drop (i + 1)) rn = some fl, ?_, ?_⟩
    · rintro σn Hn ⟨rn, Fn, g1, g2, g3⟩
      exact ⟨m - 1, by omega, by omega, rn, Fn, g1, g2, g3⟩
    · intro x Hx hy
      rw [List.drop_eq_getElem_cons hi] at hci
      have hd : ds[i]? = some ds[i] := List.getElem?_eq_getElem hi
      generalize ds[i] = d at hci hd
      obtain ⟨Fx0, nx0, dx0⟩ := jw.yld i d Hi x Hx (sFi.trans fi.sub) hd hy
      -- settle the item beside what is settled already
      obtain ⟨Fx, nx, dx⟩ : ∃ Fx, New A.K Fi Hi Fx Hx ∧ Den A.K Fx d x := by
        refine ⟨fun b => match Fi b with | some u => some u | none => Fx0 b, ⟨fun b u e => by simp only [e], fun b u e => ?_, nx0.hh, fun b u e => ?_⟩, Den.mono (fun b u e => ?_) d dx0⟩
        · cases q1 : Fi b with
          | some w =>
            simp only [q1] at e
            cases e
            exact nx0.hh _ _ (fi.sub _ _ q1)
          | none =>
            simp only [q1] at e
            exact nx0.fh _ _ e
        · cases q1 : Fi b with
          | some w =>
            simp only [q1] at e
            cases e
            exact .inl rfl
          | none =>
            simp only [q1] at e
            rcases nx0.nw b u e with z | z
            · exact absurd (sFi b u z) (by rw [q1]; exact fun w => nomatch w)
            · exact .inr z
        · cases q1 : Fi b with
          | none => simp only [q1]; exact e
          | some w =>
            simp only [q1]
            rw [← nx0.fh b u e, nx0.hh b w (fi.sub b w q1)]
      have fx := fi.grow nx
      unfold forD at hci
      cases hfd : f d ri with
      | none => rw [hfd] at hci; cases hci
      | some fl1 =>
        rw [hfd] at hci
        have hfd2 : ((bindT ri tg d).bind fun r => runB W n body r) = some fl1 := by
          rw [← hf] at hfd
          exact hfd
        obtain ⟨rb, hb, hrun⟩ := bindS hfd2
        rw [← ok.k]
        refine bind_ok fx dx hb (fun p hpp z => hp _ (ok.p p hpp) z) fun σ2 hl hag f2 => ?_
        rw [ok.k]
        refine ⟨A, rb, Fx, fl1, ok, f2, hrun, ?_⟩
        cases fl1 with
        | next r3 => exact fun σ' F' H' s' f' => ⟨wipeR r3 wp, F', sFi.trans (nx.ff.trans s'), f'.wiped wp, hci⟩
        | cont r3 => exact fun σ' F' H' s' f' => ⟨wipeR r3 wp, F', sFi.trans (nx.ff.trans s'), f'.wiped wp, hci⟩
        | brk r3 =>
          cases hci
          exact fun σ' F' H' s' f' => q σ' F' H' (s1.trans (sFi.trans (nx.ff.trans s'))) (f'.wiped wp)
        | ret o r3 =>
          cases hci
          exact fun v σ' F' H' s' f' k' => q v σ' F' H' (s1.trans (sFi.trans (nx.ff.trans s'))) f' k'
  · refine .inl ⟨jw.stop i Hi (sFi.trans fi.sub) (by omega), ?_⟩
    rw [List.drop_eq_nil_of_le (by omega)] at hci
    cases hci
    exact q σi Fi Hi (s1.trans sFi) fi
/-- while -/
theorem imp_whl {n : Nat} {t : T} {body : Ss} {wp : List Nat} {D : Ends} {σ : L2.St} {H : Hp} (h : rdS K pro (runS W n (.whl t body wp)) D σ H) :
    tWhile (rdT K pro (runT W t)) (rdS K pro (runB W n body)) D σ H := by
  obtain ⟨A, r, F, fl, ok, fit, hm, q⟩ := h
  unfold runS at hm
  refine ⟨fun m σi Hi => ∃ (ri : Rho) (Fi : Hp), Same F Fi ∧ Fit A ri Fi σi Hi ∧ whlD (runT W t) (runB W n body) wp m ri = some fl, ⟨n, wipeR r wp, F, Same.refl F, fit.wiped wp, hm⟩, ?_⟩
  rintro m σi Hi ⟨ri, Fi, sFi, fi, hw⟩
  cases m with
  | zero => cases hw
  | succ m =>
    unfold whlD at hw
    cases hc : runT W t ri with
    | none => rw [hc] at hw; cases hw
    | some cr =>
      obtain ⟨c, r1⟩ := cr
      rw [hc] at hw
      refine ⟨A, ri, Fi, c, r1, ok, fi, hc, fun F1 H1 s1 f1 => ?_⟩
      cases c with
      | true =>
        rw [if_pos rfl]
        refine ⟨fun σn Hn => ∃ (rn : Rho) (Fn : Hp), Same F Fn ∧ Fit A rn Fn σn Hn ∧ whlD (runT W t) (runB W n body) wp m rn = some fl, fun σn Hn g => ⟨m, Nat.lt_succ_self m, g⟩, ?_⟩
        dsimp only at hw
        cases hb : runB W n body r1 with
        | none => rw [hb] at hw; cases hw
        | some fl1 =>
          rw [hb] at hw
          refine ⟨A, r1, F1, fl1, ok, f1, hb, ?_⟩
          cases fl1 with
          | next r3 => exact fun σ' F' H' s' f' => ⟨wipeR r3 wp, F', sFi.trans (s1.trans s'), f'.wiped wp, hw⟩
          | cont r3 => exact fun σ' F' H' s' f' => ⟨wipeR r3 wp, F', sFi.trans (s1.trans s'), f'.wiped wp, hw⟩
          | brk r3 =>
            cases hw
            exact fun σ' F' H' s' f' => q σ' F' H' (sFi.trans (s1.trans s')) (f'.wiped wp)
          | ret o r3 =>
            cases hw
            exact fun v σ' F' H' s' f' k' => q v σ' F' H' (sFi.trans (s1.trans s')) f' k'
      | false =>
        rw [if_neg Bool.false_ne_true]
        cases hw
        exact q σi F1 H1 (sFi.trans s1) (f1.wiped wp)
end
end Dl

/-! D7: which text a term of the small language stands for, and that the text then does what the term says. -/
namespace Dl
open PySem PySem.Spec PyProof.Rows L2

structure Sx where
  N : List Str
  sc : Scope
  raw : Scope
  pro : List Nat
  T : List (Str × Df)

def visB (sc : Scope) (x : Str) : Bool := match sc.names.lookup x with
  | some .local => true
  | some .cell => true
  | some .free => true
  | _ => false
def glB (sc : Scope) (x : Str) : Bool := match sc.names.lookup x with
  | some .globalImplicit => true
  | _ => false
def stB (sc : Scope) (x : Str) : Bool := match sc.names.lookup x with
  | some .local => true
  | some .cell => true
  | _ => false
/-- no starred one, no slice, no set display, no bare call -/
def plain : Expr → Bool
  | .Starred .. => false
  | .Slice .. => false
  | .Set .. => false
  | .Call (.Name _ _) [] [] _ => false
  | _ => true
/-- its truth is that of its value -/
def truB : Expr → Bool
  | .UnaryOp .Not _ _ => false
  | .BoolOp .. => false
  | .IfExp .. => false
  | .Compare .. => false
  | _ => true
def noComp : Expr → Bool
  | .ListComp .. => false
  | .SetComp .. => false
  | .DictComp .. => false
  | _ => true
def isComp : E → Bool
  | .comp .. => true
  | _ => false
def noTup : Expr → Bool
  | .Tuple .. => false
  | _ => true
def chkN (Z : Sx) (i : Nat) (x : Str) : Bool := decide (Z.N[i]? = some x)
def varB (Z : Sx) (i : Nat) (x : Str) : Bool := chkN Z i x && visB Z.sc x && !(x == ("__debug__" : Str)) && !(x == ("__classdict__" : Str))
def glob1 (Z : Sx) (x y : Str) : Bool := decide (x = y) && glB Z.sc y

def shape1 (Z : Sx) : K1 → Expr → Option Expr
  | .len, .Call (.Name x _) [a] [] _ => if glob1 Z x "len" then some a else none
  | .int, .Call (.Name x _) [a] [] _ => if glob1 Z x "int" then some a else none
  | .list, .Call (.Name x _) [a] [] _ => if glob1 Z x "list" then some a else none
  | .tuple, .Call (.Name x _) [a] [] _ => if glob1 Z x "tuple" then some a else none
  | .sorted, .Call (.Name x _) [a] [] _ => if glob1 Z x "sorted" then some a else none
  | .isi "bool", .Call (.Name x _) [a, .Name y _] [] _ => if glob1 Z x "isinstance" && glob1 Z y "bool" then some a else none
  | .isi "int", .Call (.Name x _) [a, .Name y _] [] _ => if glob1 Z x "isinstance" && glob1 Z y "int" then some a else none
  | .isi "str", .Call (.Name x _) [a, .Name y _] [] _ => if glob1 Z x "isinstance" && glob1 Z y "str" then some a else none
  | .isi "list", .Call (.Name x _) [a, .Name y _] [] _ => if glob1 Z x "isinstance" && glob1 Z y "list" then some a else none
  | .isi "tuple", .Call (.Name x _) [a, .Name y _] [] _ => if glob1 Z x "isinstance" && glob1 Z y "tuple" then some a else none
  | .neg, .UnaryOp .USub a _ => some a
  | _, _ => none
def shape2 : K2 → Expr → Option (Expr × Expr)
  | .add, .BinOp a .Add b _ => some (a, b)
  | .sub, .BinOp a .Sub b _ => some (a, b)
  | .mul, .BinOp a .Mult b _ => some (a, b)
  | .div, .BinOp a .FloorDiv b _ => some (a, b)
  | .mod, .BinOp a .Mod b _ => some (a, b)
  | .pow, .BinOp a .Pow b _ => some (a, b)
  | .eq, .Compare a [.Eq] [b] _ => some (a, b)
  | .ne, .Compare a [.NotEq] [b] _ => some (a, b)
  | .lt, .Compare a [.Lt] [b] _ => some (a, b)
  | .le, .Compare a [.LtE] [b] _ => some (a, b)
  | .gt, .Compare a [.Gt] [b] _ => some (a, b)
  | .ge, .Compare a [.GtE] [b] _ => some (a, b)
  | .is, .Compare a [.Is] [b] _ => some (a, b)
  | .isNot, .Compare a [.IsNot] [b] _ => some (a, b)
  | .isIn, .Compare a [.In] [b] _ => some (a, b)
  | .notIn, .Compare a [.NotIn] [b] _ => some (a, b)
  | .at, .Subscript a b _ => some (a, b)
  | .index, .Call (.Attribute a n ap) [b] [] cp => if decide (n = "index") && (ap.endLine == cp.line) then some (a, b) else none
  | .join, .Call (.Attribute a n ap) [b] [] cp => if decide (n = "join") && (ap.endLine == cp.line) then some (a, b) else none
  | _, _ => none
def cmpB : K2 → Bool
  | .eq | .ne | .lt | .le | .gt | .ge | .is | .isNot | .isIn | .notIn => true
  | _ => false
def chkTg (Z : Sx) : Tg → Expr → Bool
  | .name i, .Name x _ => chkN Z i x && stB Z.raw x
  | .tup is, .Tuple ts _ _ => chkNs is ts
  | _, _ => false
where chkNs : List Nat → List Expr → Bool
  | [], [] => true
  | i :: is, .Name x _ :: ts => chkN Z i x && stB Z.raw x && chkNs is ts
  | _, _ => false
def ownP (N : List Str) (own : List Nat) : List (Str × Nat) := own.map fun i => (N.getD i ⟨#[]⟩, i)
theorem ownP_snd (N : List Str) (own : List Nat) : (ownP N own).map (·.2) = own := by
  unfold ownP
  rw [List.map_map]
  exact List.map_id own

mutual
def chkE (Z : Sx) : E → Expr → Bool
  | .var i, x => match x with
    | .Name x _ => varB Z i x
    | _ => false
  | .non, x => match x with
    | .Constant .none _ _ => true
    | _ => false
  | .bl b, x => match x with
    | .Constant (.bool c) _ _ => b == c
    | _ => false
  | .int n, x => match x with
    | .Constant (.int m) _ _ => decide (n = m)
    | _ => false
  | .str z, x => match x with
    | .Constant (.str y) _ _ => decide (z = y) && decide (z.length ≤ 1000)
    | _ => false
  | .tup es, x => match x with
    | .Tuple xs _ _ => chkL Z es xs && decide (xs.length ≤ 1000)
    | _ => false
  | .lst es, x => match x with
    | .List xs _ => chkL Z es xs && decide (xs.length ≤ 1000)
    | _ => false
  | .op1 k a, e => match shape1 Z k e with
    | some x => chkE Z a x && plain x
    | none => false
  | .op2 k a b, e => match shape2 k e with
    | some (x, y) => chkE Z a x && chkE Z b y && plain x && plain y
    | none => false
  | .cut a lo hi, x => match x with
    | .Subscript x (.Slice l h none _) _ => chkE Z a x && chkO Z lo l && chkO Z hi h
    | _ => false
  | .rev a, x => match x with
    | .Subscript x (.Slice none none (some (.UnaryOp .USub (.Constant (.int m) _ _) _)) _) _ => chkE Z a x && decide (m = 1)
    | _ => false
  | .and a b, x => match x with
    | .BoolOp .And (x :: y :: rest) p => chkE Z a x && (match rest with
      | [] => chkE Z b y
      | _ :: _ => chkE Z b (.BoolOp .And (y :: rest) p))
    | _ => false
  | .or a b, x => match x with
    | .BoolOp .Or (x :: y :: rest) p => chkE Z a x && (match rest with
      | [] => chkE Z b y
      | _ :: _ => chkE Z b (.BoolOp .Or (y :: rest) p))
    | _ => false
  | .not a, x => match x with
    | .UnaryOp .Not x _ => chkE Z a x
    | _ => false
  | .ite t a b, x => match x with
    | .IfExp c x y _ => chkT Z t c && chkE Z a x && chkE Z b y
    | _ => false
  | .call f es, x => match x with
    | .Call (.Name x _) (y :: ys) [] _ => decide (f = x) && glB Z.sc x && !(x == ("__debug__" : Str)) && chkL Z es (y :: ys) && (Z.T.lookup f).isSome
    | _ => false
  | .pop i a, x => match x with
    | .Call (.Attribute (.Name x _) n ap) [y] [] cp => varB Z i x && decide (n = "pop") && (ap.endLine == cp.line) && chkE Z a y && plain y
    | _ => false
  | .app i a, x => match x with
    | .Call (.Attribute (.Name x _) n ap) [y] [] cp => varB Z i x && decide (n = "append") && (ap.endLine == cp.line) && chkE Z a y && plain y
    | _ => false
  | .comp own tg src c elt, x => match x with
    | .ListComp el [⟨t, it, ifs, 0⟩] scope _ =>
      blkC Z.N Z.sc scope (ownP Z.N own) && chkTg { Z with sc := relS scope Z.sc, raw := scope } tg t && chkI Z src it && plain it && chkOt { Z with sc := relS scope Z.sc, raw := scope } c ifs &&
        chkE { Z with sc := relS scope Z.sc, raw := scope } elt el && ((tgSlots tg).all fun i => decide (i ∈ own)) && (Z.pro.all fun i => !decide (i ∈ own))
    | _ => false
def chkL (Z : Sx) : Es → List Expr → Bool
  | .nil, xs => match xs with
    | [] => true
    | _ => false
  | .cons e es, xs => match xs with
    | x :: xs => chkE Z e x && plain x && chkL Z es xs
    | _ => false
def chkO (Z : Sx) : Oe → Option Expr → Bool
  | .no, x => match x with
    | none => true
    | _ => false
  | .yes e, x => match x with
    | some x => chkE Z e x
    | _ => false
def chkOt (Z : Sx) : Ot → List Expr → Bool
  | .no, xs => match xs with
    | [] => true
    | _ => false
  | .yes t, xs => match xs with
    | [x] => chkT Z t x
    | _ => false
def chkT (Z : Sx) : T → Expr → Bool
  | .val e, x => truB x && chkE Z e x
  | .cmp k a b, e => match shape2 k e with
    | some (x, y) => cmpB k && chkE Z a x && chkE Z b y && plain x && plain y
    | none => false
  | .not t, x => match x with
    | .UnaryOp .Not x _ => chkT Z t x
    | _ => false
  | .and a b, x => match x with
    | .BoolOp .And (x :: y :: rest) p => chkT Z a x && (match rest with
      | [] => chkT Z b y
      | _ :: _ => chkT Z b (.BoolOp .And (y :: rest) p))
    | _ => false
  | .or a b, x => match x with
    | .BoolOp .Or (x :: y :: rest) p => chkT Z a x && (match rest with
      | [] => chkT Z b y
      | _ :: _ => chkT Z b (.BoolOp .Or (y :: rest) p))
    | _ => false
def chkI (Z : Sx) : Src → Expr → Bool
  | .seq e, x => chkE Z e x
  | .rng1 a, x => match x with
    | .Call (.Name f _) [x] [] _ => glob1 Z f "range" && chkE Z a x && plain x
    | _ => false
  | .rng2 a b, x => match x with
    | .Call (.Name f _) [x, y] [] _ => glob1 Z f "range" && chkE Z a x && chkE Z b y && plain x && plain y
    | _ => false
end
mutual
def chkS (Z : Sx) : S → Stmt → Bool
  | .expr e, x => match x with
    | .Expr x _ => chkE Z e x && noComp x
    | _ => false
  | .set i e, x => match x with
    | .Assign [.Name x _] y _ => chkN Z i x && stB Z.raw x && !decide (i ∈ Z.pro) && chkE Z e y && (noComp y || isComp e)
    | _ => false
  | .unp is e, x => match x with
    | .Assign [.Tuple ts k p] y _ => chkTg Z (.tup is) (.Tuple ts k p) && chkE Z e y && noTup y && (Z.pro.all fun i => !decide (i ∈ is))
    | _ => false
  | .setAt i ix e, x => match x with
    | .Assign [.Subscript (.Name x _) j _] y _ => varB Z i x && chkE Z ix j && plain j && chkE Z e y
    | _ => false
  | .aug i k e, x => match x with
    | .AugAssign (.Name x _) .Add y _ => decide (k = .add) && chkN Z i x && stB Z.raw x && !decide (i ∈ Z.pro) && chkE Z e y
    | .AugAssign (.Name x _) .Sub y _ => decide (k = .sub) && chkN Z i x && stB Z.raw x && !decide (i ∈ Z.pro) && chkE Z e y
    | _ => false
  | .ife t a b, x => match x with
    | .If c x y _ => chkT Z t c && chkB Z a x && chkB Z b y
    | _ => false
  | .for_ tg src body _, x => match x with
    | .For t it bd [] _ => chkTg Z tg t && chkI Z src it && plain it && chkB Z body bd && (Z.pro.all fun i => !decide (i ∈ tgSlots tg))
    | _ => false
  | .whl t body _, x => match x with
    | .While c bd [] _ => chkT Z t c && chkB Z body bd
    | _ => false
  | .ret e, x => match x with
    | .Return (some x) _ => chkE Z e x
    | _ => false
  | .retN, x => match x with
    | .Return none _ => true
    | _ => false
  | .pass, x => match x with
    | .Pass _ => true
    | _ => false
  | .brk, x => match x with
    | .Break _ => true
    | _ => false
  | .cont, x => match x with
    | .Continue _ => true
    | _ => false
def chkB (Z : Sx) : Ss → List Stmt → Bool
  | .nil, xs => match xs with
    | [] => true
    | _ => false
  | .cons s ss, xs => match xs with
    | x :: xs => chkS Z s x && chkB Z ss xs
    | _ => false
end

/-! ### what the text's forms give -/
theorem plain_star {e : Expr} (h : plain e = true) (es : List Expr) (env : Env) : starEach (e :: es) env = (false, eval e env) :: starEach es env := by
  cases e with
  | Starred v p => cases h
  | _ => rfl
theorem plain_base {e : Expr} (h : plain e = true) (n : Str) (env : Env) (w : Sem Value) : attributeBase e n env w = w := by
  unfold attributeBase
  split
  · exact absurd (show false = true from h) Bool.false_ne_true
  · rfl
theorem plain_mark {e : Expr} (h : plain e = true) (op : CmpOp) : behindInMarks op e = false := by
  cases e with
  | Set a b c => cases h
  | _ => rfl
theorem plain_ix {e : Expr} (h : plain e = true) : PlainIx e := fun o i => by
  cases e with
  | Slice a b c d => cases h
  | _ => rfl
theorem plain_fold {e : Expr} (h : plain e = true) (env : Env) (x : Value) : foldedSetIterable e env x = pure x := by
  cases e with
  | Set a b c => cases h
  | _ => rfl
theorem tru_is {e : Expr} (h : truB e = true) (env : Env) (whole : Sem Value) : isTrue e env whole = (do let v ← whole; standAt e.pos; holding [v] (truthy v)) := by
  cases e with
  | UnaryOp op a p =>
    cases op with
    | Not => cases h
    | _ => rfl
  | BoolOp a b c => cases h
  | IfExp a b c d => cases h
  | Compare a b c d => cases h
  | _ => rfl
theorem noComp_sw {e : Expr} (h : noComp e = true) (t : Option Expr) (l : Nat) (env : Env) : swapsWith e t l env = pure false := by
  cases e with
  | ListComp a b c d => cases h
  | SetComp a b c d => cases h
  | DictComp a b c d f => cases h
  | _ => rfl

def bnames : List Str := ["len", "int", "list", "tuple", "sorted", "isinstance", "range", "bool", "str"]
/-- a def of the text that may be called by its name -/
structure Cal (P : Program) (w : World) (K : PySem.W.Frag) (mg : Str → Option Value) (base : Heap) (k : Nat) (x : Str) (sp : Sp) : Prop where
  ex : ∃ (f : Addr) (fd : FuncData) (ps : List Str), FnOk P w K mg base CX0 k f fd ps sp ∧ mg x = some (.ref f) ∧ PySem.W.keepIn K (.ref f) = true ∧ Binds K fd ps []
structure GdX (X : Cx) (Z : Sx) (n k : Nat) : Prop where
  N : X.N = Z.N
  nd : Z.N.Nodup
  sc : X.env.scope = Z.sc
  st : ∀ x, stB Z.raw x = true → Loc X.env.scope x ∧ (X.fn x = true ∨ X.env.scope.names.lookup x = some .local)
  calm : X.calm = true
  room : Room k X.A
  pa : PassesOwn (model X.prog X.w) X.A X.env X.xe
  bi : ∀ x ∈ bnames, X.mg x = none
  cal : ∀ f D, Z.T.lookup f = some D → k = 0 ∨ Cal X.prog X.w X.K X.mg X.base k f (spD X.K D.io D.ps ((Phi Z.T n k).phi f))
  kd : Z.sc.kind = .function
section
variable {X : Cx} {Z : Sx} {n k : Nat}
theorem GdX.vis (g : GdX X Z n k) {x : Str} (h : visB Z.sc x = true) : Vis X.env.scope x := by
  rw [g.sc]
  unfold visB at h
  split at h
  · rename_i e; exact .inl e
  · rename_i e; exact .inr (.inl e)
  · rename_i e; exact .inr (.inr e)
  · cases h
theorem GdX.gl (g : GdX X Z n k) {x : Str} (h : glB Z.sc x = true) : Gl X x := by
  unfold glB at h
  split at h
  · rename_i e
    show X.env.scope.names.lookup x = _
    rw [g.sc]
    exact e
  · cases h
theorem GdX.pvar (g : GdX X Z n k) {i : Nat} {x : Str} {pos : Pos} (h : varB Z i x = true) : PE X (.Name x pos) (tVar i) := by
  unfold varB at h
  simp only [Bool.and_eq_true, Bool.not_eq_true'] at h
  obtain ⟨⟨⟨h1, h2⟩, h3⟩, h4⟩ := h
  exact pe_var (by rw [g.N]; exact of_decide_eq_true h1) (g.vis h2) h3 h4
theorem GdX.glob (g : GdX X Z n k) {x y : Str} (h : glob1 Z x y = true) : x = y ∧ Gl X y := by
  unfold glob1 at h
  rw [Bool.and_eq_true] at h
  exact ⟨of_decide_eq_true h.1, g.gl h.2⟩
theorem GdX.pg (g : GdX X Z n k) {i : Nat} {x : Str} {pos : Pos} (h1 : chkN Z i x = true) (h2 : stB Z.raw x = true) : PG X (.Name x pos) (gName i) := by
  obtain ⟨h3, h4⟩ := g.st x h2
  exact pg_name (by rw [g.N]; exact g.nd) (by rw [g.N]; exact of_decide_eq_true h1) h3 h4
theorem pgs_names (g : GdX X Z n k) : ∀ {is : List Nat} {ts : List Expr}, chkTg.chkNs Z is ts = true → PGs X ts (gNames is) ∧ (assignEach ts X.env).length = is.length ∧ (assignEach ts X.env).findIdx? (·.1) = none
  | [], [], _ => ⟨pgs_nil, rfl, rfl⟩
  | i :: is, .Name x p :: ts, h => by
    unfold chkTg.chkNs at h
    simp only [Bool.and_eq_true] at h
    obtain ⟨⟨h1, h2⟩, h3⟩ := h
    obtain ⟨g1, g2, g3⟩ := pgs_names g h3
    refine ⟨pgs_cons (g.pg h1 h2) g1 rfl, ?_, ?_⟩
    · show (assignEach ts X.env).length + 1 = _
      rw [g2]
      rfl
    · show List.findIdx? (·.1) ((false, assign (.Name x p) X.env) :: assignEach ts X.env) = none
      rw [List.findIdx?_cons, g3]
      rfl
  | [], _ :: _, h => by cases h
  | _ :: _, [], h => by cases h
  | i :: is, e :: ts, h => by
    cases e with
    | Name x p =>
      unfold chkTg.chkNs at h
      simp only [Bool.and_eq_true] at h
      obtain ⟨⟨h1, h2⟩, h3⟩ := h
      obtain ⟨g1, g2, g3⟩ := pgs_names g h3
      refine ⟨pgs_cons (g.pg h1 h2) g1 rfl, ?_, ?_⟩
      · show (assignEach ts X.env).length + 1 = _
        rw [g2]
        rfl
      · show List.findIdx? (·.1) ((false, assign (.Name x p) X.env) :: assignEach ts X.env) = none
        rw [List.findIdx?_cons, g3]
        rfl
    | _ => cases h
theorem GdX.tg (g : GdX X Z n k) {tg : Tg} {t : Expr} (h : chkTg Z tg t = true) : PG X t (gT X.K tg) := by
  cases tg with
  | name i =>
    cases t with
    | Name x p =>
      have h : (chkN Z i x && stB Z.raw x) = true := h
      rw [Bool.and_eq_true] at h
      exact g.pg h.1 h.2
    | _ => cases h
  | tup is =>
    cases t with
    | Tuple ts k p =>
      obtain ⟨g1, g2, g3⟩ := pgs_names g (is := is) (ts := ts) h
      exact pg_tup g.calm g1 g2 g3
    | _ => cases h
/-- the block of a comprehension -/
theorem GdX.blk (g : GdX X Z n k) {own : List (Str × Nat)} {scope : Scope} (hb : blkC Z.N Z.sc scope own = true) (s : Shared) (H : Hp) (C : Addr) (cl : List (Str × Addr)) (fp : List Addr) :
    GdX (X.blk s H scope (compEnvC scope cl C X.env) fp) { Z with sc := relS scope Z.sc, raw := scope } n k := by
  have hk := (blkOk_by hb).kind
  refine ⟨g.N, g.nd, ?_, fun x hx => ?_, g.calm, g.room, PassesOwn.never, g.bi, g.cal, ?_⟩
  · show relabel scope X.env = relS scope Z.sc
    rw [← g.sc]
    rfl
  · have e : (compEnvC scope cl C X.env).scope = relS scope X.env.scope := rfl
    show Loc (compEnvC scope cl C X.env).scope x ∧ _
    rw [e]
    unfold stB at hx
    split at hx
    · rename_i hl
      have := lookup_relS_keep (sc := X.env.scope) (by decide) hl
      exact ⟨.inl this, .inr (by show (compEnvC scope cl C X.env).scope.names.lookup x = _; rw [e]; exact this)⟩
    · rename_i hl
      have := lookup_relS_keep (sc := X.env.scope) (by decide) hl
      exact ⟨.inr this, .inl (by show (scope.names.lookup x == some .cell) = true; rw [hl]; rfl)⟩
    · cases hx
  · exact hk
theorem GdX.block (g : GdX X Z n k) : X.env.blockKind = .function := by
  unfold Env.blockKind
  rw [g.sc, g.kd]
  rfl

/-! ### operations -/
theorem few1 {e : Expr} (h : plain e = true) (cp : Pos) (env : Env) : ((backTo cp (starEach [e] env)).all (fun x => !x.1) && (backToKw cp (keywordEach [] env)).all (fun x => x.1.isSome) && decide ([e].length + ([] : List Keyword).length + (if ([] : List Keyword).isEmpty then 0 else 1) < 30)) = true := by
  rw [plain_star h]
  rfl
theorem pe_method {T id : String} {name : Str} {o e : Expr} {to te : TE} {r : V → List V → Hp → VK → Prop} {ap cp : Pos} (pa : PlainAttrs T) (slot : Slot T name id) (hty : typeOf (.builtin id) = pure (.type "method_descriptor")) (hm : MtR X id r) (ho : PE X o to) (he : PE X e te)
    (po : plain o = true) (pl : plain e = true) (hl : (ap.endLine == cp.line) = true) : PE X (.Call (.Attribute o name ap) [e] [] cp) (tBM X.K T r to (tCons te tNil)) :=
  pe_bm pa slot hty hm ho (pa_cons he pa_nil (plain_star pl [] X.env)) (plain_base po name X.env _) (few1 pl cp X.env) hl (plain_star pl [] X.env) rfl
theorem snd2 (g : GdX X Z n k) {op : K2} {e ea eb : Expr} {ia ib : E} (hs : shape2 op e = some (ea, eb)) (pa : plain ea = true) (pb : plain eb = true) (ha : PE X ea (rdE X.K Z.pro (run (Phi Z.T n k) ia))) (hb : PE X eb (rdE X.K Z.pro (run (Phi Z.T n k) ib))) :
    PE X e (rdE X.K Z.pro (run (Phi Z.T n k) (.op2 op ia ib))) := by
  have hu := g.room.units
  unfold shape2 at hs
  split at hs
  · cases hs
    exact PE.imp (pe_op ok_add ha hb) fun σ H Q h => imp_op2 h
  · cases hs
    exact PE.imp (pe_op ok_sub ha hb) fun σ H Q h => imp_op2 h
  · cases hs
    exact PE.imp (pe_op ok_mul ha hb) fun σ H Q h => imp_op2 h
  · cases hs
    exact PE.imp (pe_op ok_div ha hb) fun σ H Q h => imp_op2 h
  · cases hs
    exact PE.imp (pe_op ok_mod ha hb) fun σ H Q h => imp_op2 h
  · cases hs
    exact PE.imp (pe_op ok_pow ha hb) fun σ H Q h => imp_op2 h
  · cases hs
    exact PE.imp (pe_cmpR (ok_eq hu) ha hb (plain_mark pb _)) fun σ H Q h => imp_op2 h
  · cases hs
    exact PE.imp (pe_cmpR (ok_ne hu) ha hb (plain_mark pb _)) fun σ H Q h => imp_op2 h
  · cases hs
    exact PE.imp (pe_cmpR ok_lt ha hb (plain_mark pb _)) fun σ H Q h => imp_op2 h
  · cases hs
    exact PE.imp (pe_cmpR ok_le ha hb (plain_mark pb _)) fun σ H Q h => imp_op2 h
  · cases hs
    exact PE.imp (pe_cmpR ok_gt ha hb (plain_mark pb _)) fun σ H Q h => imp_op2 h
  · cases hs
    exact PE.imp (pe_cmpR ok_ge ha hb (plain_mark pb _)) fun σ H Q h => imp_op2 h
  · cases hs
    exact PE.imp (pe_cmpR ok_is ha hb (plain_mark pb _)) fun σ H Q h => imp_op2 h
  · cases hs
    exact PE.imp (pe_cmpR ok_isNot ha hb (plain_mark pb _)) fun σ H Q h => imp_op2 h
  · cases hs
    exact PE.imp (pe_cmpR ok_in ha hb (plain_mark pb _)) fun σ H Q h => imp_op2 h
  · cases hs
    exact PE.imp (pe_cmpR ok_notIn ha hb (plain_mark pb _)) fun σ H Q h => imp_op2 h
  · cases hs
    exact PE.imp (pe_ix ok_at ha hb (plain_ix pb)) fun σ H Q h => imp_op2 h
  · split at hs
    · rename_i hc
      cases hs
      rw [Bool.and_eq_true] at hc
      obtain ⟨h1, h2⟩ := hc
      have h1 := of_decide_eq_true h1
      subst h1
      exact PE.imp (pe_method PySem.F.plainAttrs_str PySem.F.slot_str_index PySem.F.type_str_index ok_index ha hb pa pb h2) fun σ H Q h => imp_meth (fun _ => rfl) h
    · cases hs
  · split at hs
    · rename_i hc
      cases hs
      rw [Bool.and_eq_true] at hc
      obtain ⟨h1, h2⟩ := hc
      have h1 := of_decide_eq_true h1
      subst h1
      exact PE.imp (pe_method PySem.F.plainAttrs_str PySem.F.slot_str_join PySem.F.type_str_join ok_join ha hb pa pb h2) fun σ H Q h => imp_meth (fun _ => rfl) h
    · cases hs
  · cases hs
theorem snd1 (g : GdX X Z n k) {op : K1} {e ea : Expr} {ia : E} (hs : shape1 Z op e = some ea) (pa : plain ea = true) (ha : PE X ea (rdE X.K Z.pro (run (Phi Z.T n k) ia))) :
    PE X e (rdE X.K Z.pro (run (Phi Z.T n k) (.op1 op ia))) := by
  have st : ∀ (xs : List Expr), starEach (ea :: xs) X.env = (false, eval ea X.env) :: starEach xs X.env := fun xs => plain_star pa xs X.env
  have arg : PA X [ea] (tCons (rdE X.K Z.pro (run (Phi Z.T n k) ia)) tNil) := pa_cons ha pa_nil (st [])
  have isi : ∀ (t : String) (x y : Str) (p q r : Pos), glob1 Z x "isinstance" = true → glob1 Z y (Str.ofString t) = true → X.mg (Str.ofString t) = none → bootBuiltins (Str.ofString t) = some (.type t) → (Str.ofString t) ≠ "__name__" → ((Str.ofString t) == ("__debug__" : Str)) = false →
      PE X (.Call (.Name x p) [ea, .Name y q] [] r) (rdE X.K Z.pro (run (Phi Z.T n k) (.op1 (.isi t) ia))) := by
    intro t x y p q r h1 h2 hm hb hn hd
    obtain ⟨rfl, g1⟩ := g.glob h1
    obtain ⟨rfl, g2⟩ := g.glob h2
    refine PE.imp (pe_callB (ok_isi t) g1 (g.bi _ (by decide)) (by decide +kernel) (pa_cons ha (pa_cons (pe_bltn (v := .ty t) g2 hm hb rfl hn hd) pa_nil rfl) (st _)) (by decide) (by decide) (st _) rfl) fun σ H Q h => imp_isi h
  unfold shape1 at hs
  split at hs
  · split at hs
    · rename_i hc
      cases hs
      obtain ⟨rfl, g1⟩ := g.glob hc
      exact PE.imp (pe_callB ok_len g1 (g.bi _ (by decide)) (by decide +kernel) arg (by decide) (by decide) (st _) rfl) fun σ H Q h => imp_call1 h
    · cases hs
  · split at hs
    · rename_i hc
      cases hs
      obtain ⟨rfl, g1⟩ := g.glob hc
      exact PE.imp (pe_callTy ok_int g1 (g.bi _ (by decide)) (by decide +kernel) arg (by decide) (by decide) (st _) rfl) fun σ H Q h => imp_call1 h
    · cases hs
  · split at hs
    · rename_i hc
      cases hs
      obtain ⟨rfl, g1⟩ := g.glob hc
      exact PE.imp (pe_callTy (ok_list g.calm) g1 (g.bi _ (by decide)) (by decide +kernel) arg (by decide) (by decide) (st _) rfl) fun σ H Q h => imp_call1 h
    · cases hs
  · split at hs
    · rename_i hc
      cases hs
      obtain ⟨rfl, g1⟩ := g.glob hc
      exact PE.imp (pe_callTy ok_tuple g1 (g.bi _ (by decide)) (by decide +kernel) arg (by decide) (by decide) (st _) rfl) fun σ H Q h => imp_call1 h
    · cases hs
  · split at hs
    · rename_i hc
      cases hs
      obtain ⟨rfl, g1⟩ := g.glob hc
      exact PE.imp (pe_callB ok_sorted g1 (g.bi _ (by decide)) (by decide +kernel) arg (by decide) (by decide) (st _) rfl) fun σ H Q h => imp_call1 h
    · cases hs
  · split at hs
    · rename_i hc
      cases hs
      rw [Bool.and_eq_true] at hc
      exact isi "bool" _ _ _ _ _ hc.1 hc.2 (g.bi "bool" (by decide)) (by decide +kernel) (by decide) (by decide)
    · cases hs
  · split at hs
    · rename_i hc
      cases hs
      rw [Bool.and_eq_true] at hc
      exact isi "int" _ _ _ _ _ hc.1 hc.2 (g.bi "int" (by decide)) (by decide +kernel) (by decide) (by decide)
    · cases hs
  · split at hs
    · rename_i hc
      cases hs
      rw [Bool.and_eq_true] at hc
      exact isi "str" _ _ _ _ _ hc.1 hc.2 (g.bi "str" (by decide)) (by decide +kernel) (by decide) (by decide)
    · cases hs
  · split at hs
    · rename_i hc
      cases hs
      rw [Bool.and_eq_true] at hc
      exact isi "list" _ _ _ _ _ hc.1 hc.2 (g.bi "list" (by decide)) (by decide +kernel) (by decide) (by decide)
    · cases hs
  · split at hs
    · rename_i hc
      cases hs
      rw [Bool.and_eq_true] at hc
      exact isi "tuple" _ _ _ _ _ hc.1 hc.2 (g.bi "tuple" (by decide)) (by decide +kernel) (by decide) (by decide)
    · cases hs
  · cases hs
    exact PE.imp (pe_un un_neg ha) fun σ H Q h => imp_neg h
  · cases hs
end
end Dl

/-! D8: the text does what its term says. -/
namespace Dl
open PySem PySem.Spec PyProof.Rows L2

theorem and2 {a b : Bool} (h : (a && b) = true) : a = true ∧ b = true := Bool.and_eq_true_iff.mp h
theorem runL_len {W : Wd} : ∀ (es : Es) (r : Rho) (ds : List Dat) (r' : Rho) (Z : Sx) (xs : List Expr), chkL Z es xs = true → runL W es r = some (ds, r') → ds.length = xs.length
  | .nil, r, ds, r', Z, xs, hc, h => by
    unfold chkL at hc
    unfold runL at h
    cases h
    split at hc
    · rfl
    · cases hc
  | .cons e es, r, ds, r', Z, xs, hc, h => by
    unfold chkL at hc
    unfold runL at h
    obtain ⟨⟨oa, r1⟩, ha, h⟩ := bindS h
    obtain ⟨⟨d, r2⟩, hd, h⟩ := bindS h
    obtain ⟨⟨ds', r3⟩, he, h⟩ := bindS h
    cases h
    split at hc
    · rw [List.length_cons, List.length_cons, runL_len es r2 ds' _ Z _ (and2 hc).2 he]
    · cases hc
theorem small_line {n : Nat} (h : n ≤ 1000) : n ≤ sizeLine := Nat.le_of_lt (small1000 h)
theorem pw_of {X : Cx} {op : BoolOp} {vs : List Expr} {p : Pos} {t : TT} (h : PT X (.BoolOp op vs p) t) : PW X (.BoolOp op vs p) t := ⟨fun _ pins s σ H Q I q => h.run pins s σ H Q I q⟩
theorem sndCmp {X : Cx} {Z : Sx} {n k : Nat} (g : GdX X Z n k) {op : K2} {e ea eb : Expr} {ia ib : E} (hc : cmpB op = true) (hs : shape2 op e = some (ea, eb)) (pb : plain eb = true) (ha : PE X ea (rdE X.K Z.pro (run (Phi Z.T n k) ia))) (hb : PE X eb (rdE X.K Z.pro (run (Phi Z.T n k) ib))) :
    PT X e (rdT X.K Z.pro (runT (Phi Z.T n k) (.cmp op ia ib))) := by
  have hu := g.room.units
  unfold shape2 at hs
  split at hs
  · cases hc
  · cases hc
  · cases hc
  · cases hc
  · cases hc
  · cases hc
  · cases hs
    exact PT.imp (pt_cmpR (ok_eq hu) ha hb (plain_mark pb _)) fun σ H Q h => imp_tcmp h
  · cases hs
    exact PT.imp (pt_cmpR (ok_ne hu) ha hb (plain_mark pb _)) fun σ H Q h => imp_tcmp h
  · cases hs
    exact PT.imp (pt_cmpR ok_lt ha hb (plain_mark pb _)) fun σ H Q h => imp_tcmp h
  · cases hs
    exact PT.imp (pt_cmpR ok_le ha hb (plain_mark pb _)) fun σ H Q h => imp_tcmp h
  · cases hs
    exact PT.imp (pt_cmpR ok_gt ha hb (plain_mark pb _)) fun σ H Q h => imp_tcmp h
  · cases hs
    exact PT.imp (pt_cmpR ok_ge ha hb (plain_mark pb _)) fun σ H Q h => imp_tcmp h
  · cases hs
    exact PT.imp (pt_cmpR ok_is ha hb (plain_mark pb _)) fun σ H Q h => imp_tcmp h
  · cases hs
    exact PT.imp (pt_cmpR ok_isNot ha hb (plain_mark pb _)) fun σ H Q h => imp_tcmp h
  · cases hs
    exact PT.imp (pt_cmpR ok_in ha hb (plain_mark pb _)) fun σ H Q h => imp_tcmp h
  · cases hs
    exact PT.imp (pt_cmpR ok_notIn ha hb (plain_mark pb _)) fun σ H Q h => imp_tcmp h
  · cases hc
  · cases hc
  · cases hc
  · cases hs
/-- a def's answer is that of a def of the text -/
theorem phi_len {T : List (Str × Df)} {n k : Nat} {f : Str} {D : Df} (h : T.lookup f = some D) (ds : List Dat) (x : Out × Dat) (hp : (Phi T n k).phi f ds = some x) : ds.length = D.ps := by
  cases k with
  | zero => cases hp
  | succ k =>
    have hp : (match T.lookup f with | some D => runD (Phi T n k) n D ds | none => none) = some x := hp
    rw [h] at hp
    have hp : runD (Phi T n k) n D ds = some x := hp
    unfold runD at hp
    split at hp
    · assumption
    · cases hp
theorem phi_io {T : List (Str × Df)} {n k : Nat} {f : Str} {D : Df} (h : T.lookup f = some D) : (Phi T n k).io f = some D.io := by
  cases k with
  | zero => show (T.lookup f).map (·.io) = _; rw [h]; rfl
  | succ k => show (T.lookup f).map (·.io) = _; rw [h]; rfl

theorem plains_any : ∀ (es : Es) (Z : Sx) (zs : List Expr), chkL Z es zs = true → ∀ (env : Env) (cp : Pos), (backTo cp (starEach zs env)).any (·.1) = false
  | .nil, Z, zs, h, _, _ => by
    unfold chkL at h
    split at h
    · rfl
    · cases h
  | .cons e es, Z, zs, h, env, cp => by
    unfold chkL at h
    split at h
    · have h1 := and2 h
      have ih := plains_any es Z _ h1.2 env cp
      rw [plain_star (and2 h1.1).2]
      exact ih
    · cases h
mutual
theorem sndE : ∀ (e : E) {X : Cx} {Z : Sx} {n k : Nat} (g : GdX X Z n k) (x : Expr), chkE Z e x = true → PE X x (rdE X.K Z.pro (run (Phi Z.T n k) e))
  | .var i, X, Z, n, k, g, x, h => by
    unfold chkE at h
    split at h
    · exact PE.imp (g.pvar h) fun σ H Q q => imp_var q
    all_goals cases h
  | .non, X, Z, n, k, g, x, h => by
    unfold chkE at h
    split at h
    · exact PE.imp pe_non fun σ H Q q => imp_c (d := .non) (fun r => by unfold run; rfl) (fun _ _ => rfl) q
    all_goals cases h
  | .bl b, X, Z, n, k, g, x, h => by
    unfold chkE at h
    split at h
    · rename_i c _ _
      have h : b = c := by simpa using h
      subst h
      exact PE.imp pe_bl fun σ H Q q => imp_c (d := .bl b) (fun r => by unfold run; rfl) (fun _ _ => rfl) q
    all_goals cases h
  | .int m, X, Z, n, k, g, x, h => by
    unfold chkE at h
    split at h
    · have h := of_decide_eq_true h
      subst h
      exact PE.imp pe_int fun σ H Q q => imp_c (d := .int m) (fun r => by unfold run; rfl) (fun _ _ => rfl) q
    all_goals cases h
  | .str z, X, Z, n, k, g, x, h => by
    unfold chkE at h
    split at h
    · have h1 := of_decide_eq_true (and2 h).1
      have h2 := of_decide_eq_true (and2 h).2
      subst h1
      exact PE.imp pe_str fun σ H Q q => imp_c (d := .str z) (fun r => by unfold run; rfl) (fun _ _ => ⟨rfl, small_line h2⟩) q
    all_goals cases h
  | .tup es, X, Z, n, k, g, x, h => by
    unfold chkE at h
    split at h
    · have h2 := of_decide_eq_true (and2 h).2
      exact PE.imp (pe_tup (sndL es g _ (and2 h).1)) fun σ H Q q => imp_tup (fun r ds r' hr => by rw [runL_len es r ds r' Z _ (and2 h).1 hr]; exact small_line h2) q
    all_goals cases h
  | .lst es, X, Z, n, k, g, x, h => by
    unfold chkE at h
    split at h
    · have h2 := of_decide_eq_true (and2 h).2
      exact PE.imp (pe_lst (sndL es g _ (and2 h).1)) fun σ H Q q => imp_lst (fun r ds r' hr => by rw [runL_len es r ds r' Z _ (and2 h).1 hr]; exact small_line h2) q
    all_goals cases h
  | .op1 op a, X, Z, n, k, g, x, h => by
    unfold chkE at h
    split at h
    · rename_i y hs
      exact snd1 g hs (and2 h).2 (sndE a g y (and2 h).1)
    · cases h
  | .op2 op a b, X, Z, n, k, g, x, h => by
    unfold chkE at h
    split at h
    · rename_i y z hs
      have h1 := and2 h
      have h2 := and2 h1.1
      have h3 := and2 h2.1
      exact snd2 g hs h2.2 h1.2 (sndE a g y h3.1) (sndE b g z h3.2)
    · cases h
  | .cut a lo hi, X, Z, n, k, g, x, h => by
    unfold chkE at h
    split at h
    · have h1 := and2 h
      have h2 := and2 h1.1
      exact PE.imp (pe_slice ok_cut (sndE a g _ h2.1) (sndO lo g _ h2.2) (sndO hi g _ h1.2)) fun σ H Q q => imp_cut q
    all_goals cases h
  | .rev a, X, Z, n, k, g, x, h => by
    unfold chkE at h
    split at h
    · have h1 := and2 h
      have h2 := of_decide_eq_true h1.2
      subst h2
      exact PE.imp (pe_revL (sndE a g _ h1.1)) fun σ H Q q => imp_rev q
    all_goals cases h
  | .and a b, X, Z, n, k, g, x, h => by
    unfold chkE at h
    split at h
    · have h1 := and2 h
      have h2 := h1.2
      split at h2
      · exact PE.imp (pe_andT (sndE a g _ h1.1) (pe_one (sndE b g _ h2))) fun σ H Q q => imp_and q
      · exact PE.imp (pe_andT (sndE a g _ h1.1) (sndE b g _ h2)) fun σ H Q q => imp_and q
    all_goals cases h
  | .or a b, X, Z, n, k, g, x, h => by
    unfold chkE at h
    split at h
    · have h1 := and2 h
      have h2 := h1.2
      split at h2
      · exact PE.imp (pe_orT (sndE a g _ h1.1) (pe_one (sndE b g _ h2))) fun σ H Q q => imp_or q
      · exact PE.imp (pe_orT (sndE a g _ h1.1) (sndE b g _ h2)) fun σ H Q q => imp_or q
    all_goals cases h
  | .not a, X, Z, n, k, g, x, h => by
    unfold chkE at h
    split at h
    · exact PE.imp (pe_notT (sndE a g _ h)) fun σ H Q q => imp_not q
    all_goals cases h
  | .ite t a b, X, Z, n, k, g, x, h => by
    unfold chkE at h
    split at h
    · have h1 := and2 h
      have h2 := and2 h1.1
      exact PE.imp (pe_ifExp (sndT t g _ h2.1) (sndE a g _ h2.2) (sndE b g _ h1.2)) fun σ H Q q => imp_ite q
    all_goals cases h
  | .call f es, X, Z, n, k, g, x, h => by
    unfold chkE at h
    split at h
    · rename_i y p z zs cp
      have h1 := and2 h
      have h2 := and2 h1.1
      have h3 := and2 h2.1
      have h4 := and2 h3.1
      have h5 := of_decide_eq_true h4.1
      subst h5
      obtain ⟨D, hD⟩ := Option.isSome_iff_exists.mp h1.2
      have hpl : plain z = true := by
        cases es with
        | nil => unfold chkL at h2; exact absurd h2.2 Bool.false_ne_true
        | cons e es =>
          have h6 := h2.2
          unfold chkL at h6
          exact (and2 (and2 h6).1).2
      have st := plain_star hpl zs X.env
      have hd : (f == ("__debug__" : Str)) = false := by
        have := h3.2
        rw [Bool.not_eq_true'] at this
        exact this
      rcases g.cal f D hD with rfl | c
      · refine ⟨fun pins s σ H Q I q => ?_⟩
        obtain ⟨A, r, F, o, r', ok, fit, hm, _⟩ := q
        unfold run at hm
        obtain ⟨io, _, hm⟩ := bindS hm
        obtain ⟨_, _, hm⟩ := bindS hm
        obtain ⟨_, _, hm⟩ := bindS hm
        obtain ⟨_, hz, hm⟩ := bindS hm
        cases hz
      · obtain ⟨fa, fd, ps, hF, hm, kp, bd⟩ := c.ex
        exact PE.imp (pe_call hF g.room (g.gl h4.2) hm kp bd .nil pass0 (sndA es D.io g _ h2.2) hd st (by
          cases es with
          | nil => unfold chkL at h2; exact absurd h2.2 Bool.false_ne_true
          | cons e es =>
            have h6 := h2.2
            unfold chkL at h6
            exact plains_any es Z zs (and2 h6).2 X.env cp)) fun σ H Q q => imp_call (phi_io hD) (phi_len hD) q
    all_goals cases h
  | .pop i a, X, Z, n, k, g, x, h => by
    unfold chkE at h
    split at h
    · have h1 := and2 h
      have h2 := and2 h1.1
      have h3 := and2 h2.1
      have h4 := and2 h3.1
      have h5 := of_decide_eq_true h4.2
      subst h5
      exact PE.imp (pe_method PySem.F.plainAttrs_list PySem.F.slot_list_pop PySem.F.type_list_pop mt_popAt (g.pvar h4.1) (sndE a g _ h2.2) rfl h1.2 h3.2) fun σ H Q q => imp_pop q
    all_goals cases h
  | .app i a, X, Z, n, k, g, x, h => by
    unfold chkE at h
    split at h
    · have h1 := and2 h
      have h2 := and2 h1.1
      have h3 := and2 h2.1
      have h4 := and2 h3.1
      have h5 := of_decide_eq_true h4.2
      subst h5
      exact PE.imp (pe_method PySem.F.plainAttrs_list PySem.F.slot_list_append PySem.F.type_list_append mt_append (g.pvar h4.1) (sndE a g _ h2.2) rfl h1.2 h3.2) fun σ H Q q => imp_app q
    all_goals cases h
  | .comp own tg src c elt, X, Z, n, k, g, x, h => by
    unfold chkE at h
    split at h
    · have h1 := and2 h
      have h2 := and2 h1.1
      have h3 := and2 h2.1
      have h4 := and2 h3.1
      have h5 := and2 h4.1
      have h6 := and2 h5.1
      have h7 := and2 h6.1
      have ho : ∀ i ∈ tgSlots tg, i ∈ own := fun i hi => of_decide_eq_true (List.all_eq_true.mp h2.2 i hi)
      have hp : ∀ i ∈ Z.pro, i ∉ own := fun i hi => by
        have := List.all_eq_true.mp h1.2 i hi
        simpa using this
      refine PE.imp (t := tLc (rdI X.K Z.pro (runI (Phi Z.T n k) src)) (gT X.K tg) (rdT X.K Z.pro (runOt (Phi Z.T n k) c)) (rdE X.K Z.pro (run (Phi Z.T n k) elt)) ((ownP Z.N own).map (·.2))) (pe_lc (own := ownP Z.N own) g.calm (by rw [g.N]; exact g.nd) (sndI src g _ h6.2) (by rw [g.N, g.sc]; exact blkOk_by h7.1)
        (fun s H C cl fp => (g.blk h7.1 s H C cl fp).tg h7.2) (fun s H C cl fp => sndOt c (g.blk h7.1 s H C cl fp) _ h4.2) (fun s H C cl fp => sndE elt (g.blk h7.1 s H C cl fp) _ h3.2) (fun x => plain_fold h5.2 X.env x)) fun σ H Q q => ?_
      rw [ownP_snd]
      exact imp_comp ho hp q
    all_goals cases h
theorem sndL : ∀ (es : Es) {X : Cx} {Z : Sx} {n k : Nat} (g : GdX X Z n k) (xs : List Expr), chkL Z es xs = true → PA X xs (rdL X.K Z.pro (runL (Phi Z.T n k) es))
  | .nil, X, Z, n, k, g, xs, h => by
    unfold chkL at h
    split at h
    · exact PA.imp pa_nil fun σ H Q q => imp_nil q
    all_goals cases h
  | .cons e es, X, Z, n, k, g, xs, h => by
    unfold chkL at h
    split at h
    · have h1 := and2 h
      have h2 := and2 h1.1
      exact PA.imp (pa_cons (sndE e g _ h2.1) (sndL es g _ h1.2) (plain_star h2.2 _ X.env)) fun σ H Q q => imp_cons q
    all_goals cases h
theorem sndA : ∀ (es : Es) (io : Option Nat) {X : Cx} {Z : Sx} {n k : Nat} (g : GdX X Z n k) (xs : List Expr), chkL Z es xs = true → PA X xs (rdA X.K Z.pro (runA (Phi Z.T n k) es io))
  | .nil, io, X, Z, n, k, g, xs, h => by
    unfold chkL at h
    split at h
    · exact PA.imp pa_nil fun σ H Q q => imp_anil q
    all_goals cases h
  | .cons e es, io, X, Z, n, k, g, xs, h => by
    unfold chkL at h
    split at h
    · have h1 := and2 h
      have h2 := and2 h1.1
      cases io with
      | none => exact PA.imp (pa_cons (sndE e g _ h2.1) (sndA es none g _ h1.2) (plain_star h2.2 _ X.env)) fun σ H Q q => imp_acons_fz (.inl ⟨rfl, rfl⟩) q
      | some j =>
        cases j with
        | zero => exact PA.imp (pa_cons (sndE e g _ h2.1) (sndA es none g _ h1.2) (plain_star h2.2 _ X.env)) fun σ H Q q => imp_acons_io q
        | succ j => exact PA.imp (pa_cons (sndE e g _ h2.1) (sndA es (some j) g _ h1.2) (plain_star h2.2 _ X.env)) fun σ H Q q => imp_acons_fz (.inr ⟨j, rfl, rfl⟩) q
    all_goals cases h
theorem sndO : ∀ (e : Oe) {X : Cx} {Z : Sx} {n k : Nat} (g : GdX X Z n k) (x : Option Expr), chkO Z e x = true → PO X x (rdO X.K Z.pro (runO (Phi Z.T n k) e))
  | .no, X, Z, n, k, g, x, h => by
    unfold chkO at h
    split at h
    · exact ⟨fun pins s σ H Q I q => po_none.run pins s σ H Q I (imp_no q)⟩
    all_goals cases h
  | .yes e, X, Z, n, k, g, x, h => by
    unfold chkO at h
    split at h
    · exact ⟨fun pins s σ H Q I q => (po_some (sndE e g _ h)).run pins s σ H Q I (imp_yes q)⟩
    all_goals cases h
theorem sndOt : ∀ (t : Ot) {X : Cx} {Z : Sx} {n k : Nat} (g : GdX X Z n k) (xs : List Expr), chkOt Z t xs = true → PTs X xs (rdT X.K Z.pro (runOt (Phi Z.T n k) t))
  | .no, X, Z, n, k, g, xs, h => by
    unfold chkOt at h
    split at h
    · refine ⟨fun pins s σ H Q I q => pts_nil.run pins s σ H Q I ?_⟩
      obtain ⟨A, r, F, b, r', ok, fit, hm, q⟩ := q
      unfold runOt at hm
      cases hm
      exact q F H (Same.refl F) fit
    all_goals cases h
  | .yes t, X, Z, n, k, g, xs, h => by
    unfold chkOt at h
    split at h
    · refine ⟨fun pins s σ H Q I q => (pts_one (sndT t g _ h)).run pins s σ H Q I ?_⟩
      unfold runOt at q
      exact q
    all_goals cases h
theorem sndT : ∀ (t : T) {X : Cx} {Z : Sx} {n k : Nat} (g : GdX X Z n k) (x : Expr), chkT Z t x = true → PT X x (rdT X.K Z.pro (runT (Phi Z.T n k) t))
  | .val e, X, Z, n, k, g, x, h => by
    unfold chkT at h
    have h1 := and2 h
    exact PT.imp (pt_truth (sndE e g x h1.2) (tru_is h1.1 X.env)) fun σ H Q q => imp_tval q
  | .cmp op a b, X, Z, n, k, g, x, h => by
    unfold chkT at h
    split at h
    · rename_i y z hs
      have h1 := and2 h
      have h2 := and2 h1.1
      have h3 := and2 h2.1
      have h4 := and2 h3.1
      exact sndCmp g h4.1 hs h1.2 (sndE a g y h4.2) (sndE b g z h3.2)
    · cases h
  | .not t, X, Z, n, k, g, x, h => by
    unfold chkT at h
    split at h
    · exact PT.imp (pt_not (sndT t g _ h)) fun σ H Q q => imp_tnot q
    all_goals cases h
  | .and a b, X, Z, n, k, g, x, h => by
    unfold chkT at h
    split at h
    · have h1 := and2 h
      have h2 := h1.2
      split at h2
      · exact PT.imp (pw_and (sndT a g _ h1.1) (pw_and1 (sndT b g _ h2))).pt fun σ H Q q => imp_tand q
      · exact PT.imp (pw_and (sndT a g _ h1.1) (pw_of (sndT b g _ h2))).pt fun σ H Q q => imp_tand q
    all_goals cases h
  | .or a b, X, Z, n, k, g, x, h => by
    unfold chkT at h
    split at h
    · have h1 := and2 h
      have h2 := h1.2
      split at h2
      · exact PT.imp (pw_or (sndT a g _ h1.1) (pw_or1 (sndT b g _ h2))).pt fun σ H Q q => imp_tor q
      · exact PT.imp (pw_or (sndT a g _ h1.1) (pw_of (sndT b g _ h2))).pt fun σ H Q q => imp_tor q
    all_goals cases h
theorem sndI : ∀ (s : Src) {X : Cx} {Z : Sx} {n k : Nat} (g : GdX X Z n k) (x : Expr) {tg : Expr}, chkI Z s x = true → PI X tg x (rdI X.K Z.pro (runI (Phi Z.T n k) s))
  | .seq e, X, Z, n, k, g, x, tg, h => by
    unfold chkI at h
    exact pi_seq rfl (sndE e g x h)
  | .rng1 a, X, Z, n, k, g, x, tg, h => by
    unfold chkI at h
    split at h
    · have h1 := and2 h
      have h2 := and2 h1.1
      obtain ⟨rfl, g1⟩ := g.glob h2.1
      have st := plain_star h1.2 [] X.env
      exact ⟨fun pins s σ H R I q => (pi_range1 g1 (g.bi _ (by decide)) (pa_cons (sndE a g _ h2.2) pa_nil st) st).run pins s σ H R I (imp_rng1 q)⟩
    all_goals cases h
  | .rng2 a b, X, Z, n, k, g, x, tg, h => by
    unfold chkI at h
    split at h
    · have h1 := and2 h
      have h2 := and2 h1.1
      have h3 := and2 h2.1
      have h4 := and2 h3.1
      obtain ⟨rfl, g1⟩ := g.glob h4.1
      have st := plain_star h1.2 [] X.env
      exact ⟨fun pins s σ H R I q => (pi_range2 g1 (g.bi _ (by decide)) (pa_cons (sndE a g _ h4.2) (pa_cons (sndE b g _ h3.2) pa_nil st) (plain_star h2.2 _ X.env)) (by rw [plain_star h2.2, st]; rfl) st).run pins s σ H R I (imp_rng2 q)⟩
    all_goals cases h
end
end Dl

/-! D9: statements, defs, the whole text. -/
namespace Dl
open PySem PySem.Spec PyProof.Rows L2

section
variable {X : Cx} {Z : Sx} {n k : Nat}
theorem noTup_sw {ts : List Expr} {kk : Nat} {p : Pos} {e : Expr} (h : noTup e = true) (env : Env) : swappedStores [.Tuple ts kk p] e env = pure none := by
  cases e with
  | Tuple a b c => cases h
  | _ => rfl
theorem tup_sole {ts : List Expr} {kk : Nat} {p : Pos} (e : Expr) (l : Nat) (env : Env) : swapsWithSole [.Tuple ts kk p] e l env = pure false := by
  cases e <;> rfl
theorem sub_sole {o i : Expr} {p : Pos} (e : Expr) (l : Nat) (env : Env) : swapsWithSole [.Subscript o i p] e l env = pure false := by
  cases e <;> rfl
theorem sub_sw {o i : Expr} {p : Pos} (e : Expr) (env : Env) : swappedStores [.Subscript o i p] e env = pure none := by
  cases e <;> rfl
/-- x += y, whole numbers or texts -/
theorem ip_plus : PIp X .Add (fun x y H Q => (∃ a b, x = V.int a ∧ y = V.int b ∧ Q (V.int (a + b)) H) ∨ (∃ a b, x = V.str a ∧ y = V.str b ∧ a.length + b.length ≤ sizeLine ∧ Q (V.str (a ++ b)) H)) := by
  intro pins s σ H x y v u Q I r1 r2 h
  rcases h with ⟨a, b, e1, e2, q⟩ | ⟨a, b, e1, e2, hl, q⟩
  · exact ip_add pins s σ H x y v u Q I r1 r2 ⟨a, b, e1, e2, q⟩
  · exact iop_add_str pins s σ H x y v u Q I r1 r2 ⟨a, b, e1, e2, hl, q⟩
theorem plain_sub {o i : Expr} {p : Pos} {env : Env} (h : plain i = true) (v : Value) : assign (.Subscript o i p) env v = (do
      let ov ← holding [v] (eval o env)
      let iv ← holding [v, ov] (eval i env)
      standAt p
      holding [v, ov, iv] (setItem ov iv v)
      release [v, ov, iv] []) := by
  cases i with
  | Slice a b c d => cases h
  | _ => rfl
/-- name = [..] -/
theorem sndSetC (g : GdX X Z n k) {i : Nat} {own : List Nat} {tg : Tg} {src : Src} {c : Ot} {elt : E} {x : Str} {px sp : Pos} {y : Expr} (h1 : chkN Z i x = true) (h2 : stB Z.raw x = true) (h : chkE Z (.comp own tg src c elt) y = true) :
    PS X (.Assign [.Name x px] y sp) (tAsg (rdE X.K Z.pro (run (Phi Z.T n k) (.comp own tg src c elt))) (gName i)) := by
  have hi : X.N[i]? = some x := by rw [g.N]; exact of_decide_eq_true h1
  have nd : X.N.Nodup := by rw [g.N]; exact g.nd
  obtain ⟨s1, s2⟩ := g.st x h2
  have pe := sndE _ g y h
  unfold chkE at h
  split at h
  · rename_i el t it ifs scope pos
    by_cases hw : (X.env.blockKind == .function && X.env.kindOf x == some .local && px.line == pos.line && !(scope.names.any fun (n, k) => n == x && (k == .local || k == .cell))) = true
    · have hsw : swapsWith (.ListComp el [⟨t, it, ifs, 0⟩] scope pos) (some (.Name x px)) sp.line X.env = pure true := by
        show pure _ = _
        exact congrArg pure hw
      have hl : X.env.scope.names.lookup x = some .local := by
        have := (and2 (and2 (and2 hw).1).1).2
        exact eq_of_beq this
      have h1 := and2 h
      have h2 := and2 h1.1
      have h3 := and2 h2.1
      have h4 := and2 h3.1
      have h5 := and2 h4.1
      have h6 := and2 h5.1
      have h7 := and2 h6.1
      have ho : ∀ i ∈ tgSlots tg, i ∈ own := fun i hi => of_decide_eq_true (List.all_eq_true.mp h2.2 i hi)
      have hp : ∀ i ∈ Z.pro, i ∉ own := fun i hi => by
        have := List.all_eq_true.mp h1.2 i hi
        simpa using this
      refine PS.imp (t := tAsg (tLc (rdI X.K Z.pro (runI (Phi Z.T n k) src)) (gT X.K tg) (rdT X.K Z.pro (runOt (Phi Z.T n k) c)) (rdE X.K Z.pro (run (Phi Z.T n k) elt)) ((ownP Z.N own).map (·.2))) (gName i)) (ps_setLc (own := ownP Z.N own) g.calm nd hi hl hsw (sndI src g _ h6.2) (by rw [g.N, g.sc]; exact blkOk_by h7.1)
        (fun s H C cl fp => (g.blk h7.1 s H C cl fp).tg h7.2) (fun s H C cl fp => sndOt c (g.blk h7.1 s H C cl fp) _ h4.2) (fun s H C cl fp => sndE elt (g.blk h7.1 s H C cl fp) _ h3.2) (fun x => plain_fold h5.2 X.env x)) fun D σ H q => ?_
      rw [ownP_snd]
      exact imp_comp ho hp q
    · have hsw : swapsWith (.ListComp el [⟨t, it, ifs, 0⟩] scope pos) (some (.Name x px)) sp.line X.env = pure false := by
        show pure _ = _
        exact congrArg pure ((Bool.not_eq_true _).mp hw)
      exact ps_set nd hi s1 pe hsw s2
  · cases h
mutual
theorem sndS : ∀ (s : S) {X : Cx} {Z : Sx} {n k : Nat} (g : GdX X Z n k) (x : Stmt), chkS Z s x = true → PS X x (rdS X.K Z.pro (runS (Phi Z.T n k) n s))
  | .expr e, X, Z, n, k, g, x, h => by
    unfold chkS at h
    split at h
    · have h1 := and2 h
      exact PS.imp (ps_expr (sndE e g _ h1.1) (noComp_sw h1.2 _ _ _)) fun D σ H q => imp_expr q
    · cases h
  | .set i e, X, Z, n, k, g, x, h => by
    unfold chkS at h
    split at h
    · rename_i x px y sp
      have h0 := and2 h
      have h1 := and2 h0.1
      have h2 := and2 h1.1
      have h3 := and2 h2.1
      have hp : i ∉ Z.pro := by simpa using h2.2
      have hi : X.N[i]? = some x := by rw [g.N]; exact of_decide_eq_true h3.1
      have nd : X.N.Nodup := by rw [g.N]; exact g.nd
      obtain ⟨s1, s2⟩ := g.st x h3.2
      by_cases hc : noComp y = true
      · exact PS.imp (ps_set nd hi s1 (sndE e g _ h1.2) (noComp_sw hc _ _ _) s2) fun D σ H q => imp_set hp q
      · have hc2 : isComp e = true := by
          have := h0.2
          rw [Bool.or_eq_true] at this
          exact this.resolve_left hc
        cases e with
        | comp own tg src c elt => exact PS.imp (sndSetC g h3.1 h3.2 h1.2) fun D σ H q => imp_set hp q
        | _ => cases hc2
    · cases h
  | .unp is e, X, Z, n, k, g, x, h => by
    unfold chkS at h
    split at h
    · have h1 := and2 h
      have h2 := and2 h1.1
      have h3 := and2 h2.1
      have hp : ∀ i ∈ Z.pro, i ∉ is := fun i hi => by
        have := List.all_eq_true.mp h1.2 i hi
        simpa using this
      exact PS.imp (ps_asg (sndE e g _ h3.2) (g.tg (tg := .tup is) h3.1) (tup_sole _ _ _) (noTup_sw h2.2 _) rfl) fun D σ H q => imp_unp hp q
    · cases h
  | .setAt i ix e, X, Z, n, k, g, x, h => by
    unfold chkS at h
    split at h
    · have h1 := and2 h
      have h2 := and2 h1.1
      have h3 := and2 h2.1
      exact PS.imp (ps_asg (sndE e g _ h1.2) (pg_sub (g.pvar h3.1) (sndE ix g _ h3.2) set_list (plain_sub h2.2)) (sub_sole _ _ _) (sub_sw _ _) rfl) fun D σ H q => imp_setAt q
    · cases h
  | .aug i op e, X, Z, n, k, g, x, h => by
    unfold chkS at h
    split at h
    · rename_i x px y sp
      have h1 := and2 h
      have h2 := and2 h1.1
      have h3 := and2 h2.1
      have h4 := and2 h3.1
      have hp : i ∉ Z.pro := by simpa using h2.2
      have hk := of_decide_eq_true h4.1
      subst hk
      obtain ⟨s1, s2⟩ := g.st x h3.2
      refine PS.imp (ps_aug (by rw [g.N]; exact g.nd) (by rw [g.N]; exact of_decide_eq_true h4.2) s1 (sndE e g _ h1.2) ip_plus s2) fun D σ H q => imp_aug hp (fun x y H Q z => ?_) q
      rcases z with ⟨a, b, e1, e2, ⟨_, z⟩ | ⟨z, _⟩⟩ | ⟨a, b, e1, e2, _, hl, z⟩
      · exact .inl ⟨a, b, e1, e2, z⟩
      · cases z
      · exact .inr ⟨a, b, e1, e2, hl, z⟩
    · rename_i x px y sp
      have h1 := and2 h
      have h2 := and2 h1.1
      have h3 := and2 h2.1
      have h4 := and2 h3.1
      have hp : i ∉ Z.pro := by simpa using h2.2
      have hk := of_decide_eq_true h4.1
      subst hk
      obtain ⟨s1, s2⟩ := g.st x h3.2
      refine PS.imp (ps_aug (by rw [g.N]; exact g.nd) (by rw [g.N]; exact of_decide_eq_true h4.2) s1 (sndE e g _ h1.2) ip_sub s2) fun D σ H q => imp_aug hp (fun x y H Q z => ?_) q
      rcases z with ⟨a, b, e1, e2, ⟨z, _⟩ | ⟨_, z⟩⟩ | ⟨a, b, e1, e2, z, _⟩
      · cases z
      · exact ⟨a, b, e1, e2, z⟩
      · cases z
    · cases h
  | .ife t a b, X, Z, n, k, g, x, h => by
    unfold chkS at h
    split at h
    · have h1 := and2 h
      have h2 := and2 h1.1
      exact PS.imp (ps_if (sndT t g _ h2.1) (sndB a g _ h2.2) (sndB b g _ h1.2)) fun D σ H q => imp_ife q
    · cases h
  | .for_ tg src body wp, X, Z, n, k, g, x, h => by
    unfold chkS at h
    split at h
    · have h1 := and2 h
      have h2 := and2 h1.1
      have h3 := and2 h2.1
      have h4 := and2 h3.1
      have hp : ∀ i ∈ Z.pro, i ∉ tgSlots tg := fun i hi => by
        have := List.all_eq_true.mp h1.2 i hi
        simpa using this
      exact PS.imp (ps_for g.pa g.calm (sndI src g _ h4.2) (g.tg h4.1) (sndB body g _ h2.2) (fun x => plain_fold h3.2 X.env x)) fun D σ H q => imp_for hp q
    · cases h
  | .whl t body wp, X, Z, n, k, g, x, h => by
    unfold chkS at h
    split at h
    · have h1 := and2 h
      exact PS.imp (ps_while g.pa (sndT t g _ h1.1) (sndB body g _ h1.2)) fun D σ H q => imp_whl q
    · cases h
  | .ret e, X, Z, n, k, g, x, h => by
    unfold chkS at h
    split at h
    · exact PS.imp (ps_ret (sndE e g _ h)) fun D σ H q => imp_ret q
    · cases h
  | .retN, X, Z, n, k, g, x, h => by
    unfold chkS at h
    split at h
    · exact PS.imp ps_retN fun D σ H q => imp_retN q
    · cases h
  | .pass, X, Z, n, k, g, x, h => by
    unfold chkS at h
    split at h
    · exact PS.imp ps_pass fun D σ H q => imp_next (fun r => by unfold runS; rfl) q
    · cases h
  | .brk, X, Z, n, k, g, x, h => by
    unfold chkS at h
    split at h
    · exact PS.imp ps_break fun D σ H q => imp_brk q
    · cases h
  | .cont, X, Z, n, k, g, x, h => by
    unfold chkS at h
    split at h
    · exact PS.imp ps_continue fun D σ H q => imp_cont q
    · cases h
theorem sndB : ∀ (ss : Ss) {X : Cx} {Z : Sx} {n k : Nat} (g : GdX X Z n k) (xs : List Stmt), chkB Z ss xs = true → PSs X xs (rdS X.K Z.pro (runB (Phi Z.T n k) n ss))
  | .nil, X, Z, n, k, g, xs, h => by
    unfold chkB at h
    split at h
    · exact PSs.imp pss_nil fun D σ H q => imp_bnil q
    · cases h
  | .cons s ss, X, Z, n, k, g, xs, h => by
    unfold chkB at h
    split at h
    · have h1 := and2 h
      exact PSs.imp (pss_cons (sndS s g _ h1.1) (sndB ss g _ h1.2)) fun D σ H q => imp_bcons q
    · cases h
end
end

/-! ### defs -/
def proOf (io : Option Nat) (vs : List V) : List (Nat × V) := match io with
  | none => []
  | some i => match vs[i]? with
    | some v => [(i, v)]
    | none => []
def proN (io : Option Nat) : List Nat := match io with
  | none => []
  | some i => [i]
theorem pro_in {io : Option Nat} {vs : List V} {p : Nat × V} (h : p ∈ proOf io vs) : io = some p.1 ∧ vs[p.1]? = some p.2 := by
  unfold proOf at h
  cases io with
  | none => cases h
  | some i =>
    dsimp only at h
    cases hv : vs[i]? with
    | none => rw [hv] at h; cases h
    | some v =>
      rw [hv] at h
      have e := List.mem_singleton.mp h
      subst e
      exact ⟨rfl, hv⟩
theorem start_get {N : List Str} {vs : List V} {i : Nat} {v : V} (h : vs[i]? = some v) : (L2.start N vs)[i]? = some (some v) := by
  unfold L2.start
  have hi := (List.getElem?_eq_some_iff.mp h).1
  rw [List.getElem?_append_left (by rw [List.length_map]; exact hi), List.getElem?_map, h]
  rfl
theorem startR_get {D : Df} {ds : List Dat} {i : Nat} {s : Sl} (h : (startR D ds)[i]? = some (some s)) : ∃ d, ds[i]? = some d ∧ s = ⟨d, if D.io = some i then .io else .fz⟩ := by
  unfold startR at h
  by_cases hi : i < ds.length
  · rw [List.getElem?_append_left (by rw [List.length_mapIdx]; exact hi), List.getElem?_mapIdx, List.getElem?_eq_getElem hi] at h
    exact ⟨ds[i], List.getElem?_eq_getElem hi, (Option.some.inj (Option.some.inj h)).symm⟩
  · rw [List.getElem?_append_right (by rw [List.length_mapIdx]; omega), List.getElem?_replicate] at h
    split at h
    · cases h
    · cases h
theorem fit_start {K : PySem.W.Frag} {D : Df} {F H : Hp} {ds : List Dat} {vs : List V} (a : ArgsOk K D.io D.ps F H ds vs) : Fit ⟨K, H, F, IoA D.io vs, proOf D.io vs⟩ (startR D ds) F (L2.start D.N vs) H := by
  have lent : ∀ b, IoA D.io vs b → ∃ d, F b = none ∧ Own K F H b d := fun b z => by
    obtain ⟨i, hi, hv⟩ := z
    have hl := (List.getElem?_eq_some_iff.mp hv).1
    have hd : i < ds.length := by rw [a.ld, ← a.lv]; exact hl
    obtain ⟨x, e, h1, h2⟩ := a.lent i ds[i] _ (List.getElem?_eq_getElem hd) hv hi
    cases e
    exact ⟨ds[i], h1, h2⟩
  refine ⟨a.sub, fun b o e _ => e, fun b o e => .inl e, Same.refl F, fun b z => ?_, fun i s e => ?_, fun i j s t b n e1 m1 e2 m2 => ?_, fun p hp => start_get (pro_in hp).2, ?_⟩
  · obtain ⟨d, _, h2⟩ := lent b z
    exact Own.there h2
  · obtain ⟨d, hd, rfl⟩ := startR_get e
    have hl := (List.getElem?_eq_some_iff.mp hd).1
    have hv : i < vs.length := by rw [a.lv, ← a.ld]; exact hl
    refine ⟨vs[i], start_get (List.getElem?_eq_getElem hv), ?_⟩
    unfold SlotOk
    by_cases hio : D.io = some i
    · simp only [if_pos hio]
      obtain ⟨b, eb, h1, h2⟩ := a.lent i d _ hd (List.getElem?_eq_getElem hv) hio
      exact ⟨b, eb, h1, ⟨i, hio, by rw [List.getElem?_eq_getElem hv, eb]⟩, h2⟩
    · simp only [if_neg hio]
      exact a.fz i d _ hd (List.getElem?_eq_getElem hv) hio
  · obtain ⟨d, hd, rfl⟩ := startR_get e1
    obtain ⟨d', hd', rfl⟩ := startR_get e2
    by_cases h1 : D.io = some i
    · by_cases h2 : D.io = some j
      · rw [h1] at h2
        cases h2
        exact absurd rfl n
      · simp only [if_neg h2] at m2
        exact absurd rfl m2
    · simp only [if_neg h1] at m1
      exact absurd rfl m1
  · unfold startR L2.start
    rw [List.length_append, List.length_append, List.length_mapIdx, List.length_map, List.length_replicate, List.length_replicate, a.ld, a.lv]

/-- what stands of a def behind the top -/
structure DefAt (P : Program) (K : PySem.W.Frag) (mg : Str → Option Value) (T : List (Str × Df)) (f : Str) (D : Df) : Prop where
  ex : ∃ (st : Stmt) (fa : Addr) (fd : FuncData), Fun K f f st fa fd ∧ mg f = some (.ref fa) ∧ Binds K fd (D.N.take D.ps) [] ∧ FnScope D.N (D.N.take D.ps) (defScope st) ∧ D.ps ≤ D.N.length ∧
    chkB ⟨D.N, defScope st, defScope st, proN D.io, T⟩ D.body (defBody st) = true

theorem def_ok {P : Program} {w : World} {K : PySem.W.Frag} {mg : Str → Option Value} {base : Heap} {T : List (Str × Df)} {n k : Nat} {f : Str} {D : Df} {st : Stmt} {fa : Addr} {fd : FuncData} (F : Fun K f f st fa fd) (S : FnScope D.N (D.N.take D.ps) (defScope st)) (hps : D.ps ≤ D.N.length)
    (hc : chkB ⟨D.N, defScope st, defScope st, proN D.io, T⟩ D.body (defBody st) = true) (hT : T.lookup f = some D) (bi : ∀ x ∈ bnames, mg x = none)
    (cal : ∀ f D, T.lookup f = some D → k = 0 ∨ Cal P w K mg base k f (spD K D.io D.ps ((Phi T n k).phi f))) : FnOk P w K mg base CX0 (k + 1) fa fd (D.N.take D.ps) (spD K D.io D.ps ((Phi T n (k + 1)).phi f)) := by
  refine F.ok S (fun vs H Q E h => ?_) (fun cdv A outer s H vs Q E hr h => ?_)
  · obtain ⟨_, _, _, _, _, a, _⟩ := h
    rw [a.lv, List.length_take]
    omega
  · obtain ⟨F0, ds, o, d, hp, a, q⟩ := h
    have hp : (match T.lookup f with | some D => runD (Phi T n k) n D ds | none => none) = some (o, d) := hp
    rw [hT] at hp
    have hp : runD (Phi T n k) n D ds = some (o, d) := hp
    have g : GdX (cxOf CX0 P w K mg base D.N f (defScope st) fa cdv A outer s H E).nox ⟨D.N, defScope st, defScope st, proN D.io, T⟩ n k := by
      refine ⟨rfl, S.nd, rfl, fun x hx => ?_, rfl, hr, PassesOwn.never, bi, cal, S.kind⟩
      refine ⟨?_, .inl rfl⟩
      unfold stB at hx
      show Loc (defScope st) x
      split at hx
      · rename_i e; exact .inl e
      · rename_i e; exact .inr e
      · cases hx
    refine ⟨_, sndB D.body g _ hc, ?_⟩
    have fit := fit_start a
    have ok : Ok K (proN D.io) ⟨K, H, F0, IoA D.io vs, proOf D.io vs⟩ := ⟨rfl, fun p hpp => by
      have := (pro_in hpp).1
      unfold proN
      rw [this]
      exact List.mem_singleton.mpr rfl⟩
    unfold runD at hp
    split at hp
    · -- what is left behind
      have left : ∀ {r : Rho} {σ' : L2.St} {F' H' : Hp}, leftR D r = some d → Same F0 F' → Fit ⟨K, H, F0, IoA D.io vs, proOf D.io vs⟩ r F' σ' H' → ∀ b, IoA D.io vs b → F' b = none ∧ Own K F' H' b d := by
        intro r σ' F' H' hl sf f' b hb
        obtain ⟨i, hi, hv⟩ := hb
        unfold leftR at hl
        rw [hi] at hl
        dsimp only at hl
        split at hl
        · rename_i x hx
          cases hl
          obtain ⟨v, e1, e2⟩ := f'.slot i _ (look_some hx)
          have hpr := f'.pro (i, .ref b) (by
            show (i, V.ref b) ∈ proOf D.io vs
            unfold proOf
            rw [hi]
            dsimp only
            rw [hv]
            exact List.mem_singleton.mpr rfl)
          rw [hpr] at e1
          cases e1
          obtain ⟨c, ec, h1, h2, h3⟩ := e2
          cases ec
          exact ⟨h1, h3⟩
        · cases hl
      have post : ∀ {r : Rho} {σ' : L2.St} {F' H' : Hp} {v : V}, leftR D r = some d → Same F0 F' → Fit ⟨K, H, F0, IoA D.io vs, proOf D.io vs⟩ r F' σ' H' → ResOk K H F' H' o v → Q v H' := by
        intro r σ' F' H' v hl sf f' hr
        exact q v F' H' ⟨sf, f'.sub, f'.keep, f'.newf, left hl sf f', hr⟩
      cases hb : runB (Phi T n k) n D.body (startR D ds) with
      | none => rw [hb] at hp; cases hp
      | some fl =>
        rw [hb] at hp
        refine ⟨_, startR D ds, F0, fl, ok, fit, hb, ?_⟩
        cases fl with
        | next r =>
          obtain ⟨x, hl, hp⟩ := bindS hp
          cases hp
          exact fun σ' F' H' sf f' => post hl sf f' rfl
        | brk r => cases hp
        | cont r => cases hp
        | ret oo r =>
          cases oo with
          | val x =>
            obtain ⟨y, hl, hp⟩ := bindS hp
            cases hp
            exact fun v σ' F' H' sf f' k' => post hl sf f' k'
          | fresh x =>
            obtain ⟨y, hl, hp⟩ := bindS hp
            cases hp
            intro v σ' F' H' sf f' k'
            obtain ⟨b, e1, e2, e3, e4, e5, e6⟩ := k'
            exact post hl sf f' ⟨b, e1, e2, e3, e5⟩
          | place j =>
            dsimp only at hp
            split at hp
            · rename_i x hx
              obtain ⟨y, hl, hp⟩ := bindS hp
              cases hp
              intro v σ' F' H' sf f' k'
              obtain ⟨u, e1, e2⟩ := f'.slot j _ (look_some hx)
              rw [show σ'[j]? = some (some v) from k'] at e1
              cases e1
              exact post hl sf f' e2
            · rename_i x hx
              obtain ⟨y, hl, hp⟩ := bindS hp
              cases hp
              intro v σ' F' H' sf f' k'
              obtain ⟨u, e1, e2⟩ := f'.slot j _ (look_some hx)
              rw [show σ'[j]? = some (some v) from k'] at e1
              cases e1
              obtain ⟨b, e3, e4, e5, e6, e7⟩ := e2
              exact post hl sf f' ⟨b, e3, e4, e5, e7⟩
            · cases hp
    · cases hp
/-- all defs of a text, to any depth -/
theorem all_ok {P : Program} {w : World} {K : PySem.W.Frag} {mg : Str → Option Value} {base : Heap} {T : List (Str × Df)} {n : Nat} (bi : ∀ x ∈ bnames, mg x = none) (da : ∀ f D, T.lookup f = some D → DefAt P K mg T f D) :
    ∀ k f D, T.lookup f = some D → k = 0 ∨ Cal P w K mg base k f (spD K D.io D.ps ((Phi T n k).phi f))
  | 0, f, D, h => .inl rfl
  | k + 1, f, D, h => by
    obtain ⟨st, fa, fd, F, hm, b, S, hps, hc⟩ := (da f D h).ex
    exact .inr ⟨fa, fd, _, def_ok F S hps hc h bi fun f D h => all_ok bi da k f D h, hm, F.kp, b⟩
/-- the script as plain data -/
theorem den_script {K : PySem.W.Frag} {H : Hp} {a : Addr} {ns : List Int} (h : SqL K H a (ns.map V.int)) (hl : ns.length ≤ 63) : Den K H (.lst (ns.map .int)) (.ref a) :=
  ⟨a, _, rfl, h, by rw [List.length_map]; exact small_line (by omega), DenL.of_ints ns⟩
theorem law_sp {K : PySem.W.Frag} {H : Hp} {a : Addr} {ns : List Int} {phi : List Dat → Option (Out × Dat)} {E : XK} (h : SqL K H a (ns.map V.int)) (hl : ns.length ≤ 63) (hp : phi [.lst (ns.map .int)] = some (.val (.bl true), .non)) :
    spD K none 1 phi [.ref a] H (fun v _ => v = .bl true) E := by
  refine ⟨H, _, _, _, hp, ⟨Same.refl H, rfl, rfl, fun i d v hd hv _ => ?_, fun _ _ _ _ _ z => nomatch z⟩, fun v F' H' po => po.res⟩
  cases i with
  | zero =>
    cases hd
    cases hv
    exact den_script h hl
  | succ i => cases hd
/-- a def, from what the head tells of it -/
theorem at_mk {P : Program} {K : PySem.W.Frag} {h : Heap} {mg : Str → Option Value} (X : K.In h) (G : h.Ns mainGlobals mg) {T : List (Str × Df)} {f : Str} {D : Df} {st : Stmt} {fa : Addr} {od an : Option Addr} {sl : Array (Option Value)} {oc kV dc pm cd ct : Value}
    (S : FnScope D.N (D.N.take D.ps) (defScope st)) (hps : D.ps ≤ D.N.length) (hc : chkB ⟨D.N, defScope st, defScope st, proN D.io, T⟩ D.body (defBody st) = true)
    (b : ∀ (kV doc pm : Value) (an : Option Addr) (cdv ct : Value) (us : List Value), us.length = (D.N.take D.ps).length → bindArgs (PySem.W.fnOf f f (defArgs st) (defBody st) (defScope st) .none kV doc pm an cdv ct) ⟨us, []⟩ = pure ((D.N.take D.ps).zip us))
    (a1 : PySem.W.nsIn K mainGlobals f = some (some (.ref fa))) (l1 : K.lookup fa = some ⟨oc, od, .func (PySem.W.fnOf f f (defArgs st) (defBody st) (defScope st) .none kV dc pm an cd ct), sl⟩) (c1 : PySem.W.codeIn K cd f = true) (k1 : PySem.W.keepIn K (.ref fa) = true) : DefAt P K mg T f D :=
  let F := fun_mk (st := st) l1 c1 k1
  ⟨st, fa, _, F, PySem.W.mg_of X G a1, F.binds b, S, hps, hc⟩
/-- the law's own def -/
theorem law_fin {P : Program} {w : World} {K : PySem.W.Frag} {h : Heap} {mg : Str → Option Value} {fa : Addr} (X : K.In h) (G : h.Ns mainGlobals mg) (hfa : mg "law" = some (.ref fa)) {T : List (Str × Df)} {n k : Nat} {D : Df} {st : Stmt} {fb : Addr} {od an : Option Addr} {sl : Array (Option Value)} {oc kV dc pm cd ct : Value}
    (S : FnScope D.N (D.N.take D.ps) (defScope st)) (hps : D.ps ≤ D.N.length) (hc : chkB ⟨D.N, defScope st, defScope st, proN D.io, T⟩ D.body (defBody st) = true) (hT : T.lookup ("law" : Str) = some D) (hN : D.N.take D.ps = [("script" : Str)]) (hio : D.io = none) (hp1 : D.ps = 1)
    (b : ∀ (kV doc pm : Value) (an : Option Addr) (cdv ct : Value) (us : List Value), us.length = (D.N.take D.ps).length → bindArgs (PySem.W.fnOf "law" "law" (defArgs st) (defBody st) (defScope st) .none kV doc pm an cdv ct) ⟨us, []⟩ = pure ((D.N.take D.ps).zip us))
    (a1 : PySem.W.nsIn K mainGlobals "law" = some (some (.ref fb))) (l1 : K.lookup fb = some ⟨oc, od, .func (PySem.W.fnOf "law" "law" (defArgs st) (defBody st) (defScope st) .none kV dc pm an cd ct), sl⟩) (c1 : PySem.W.codeIn K cd "law" = true) (k1 : PySem.W.keepIn K (.ref fb) = true)
    (bi : ∀ x ∈ bnames, mg x = none) (da : ∀ f D, T.lookup f = some D → DefAt P K mg T f D) :
    ∃ fd : FuncData, (∀ (s : Shared) (v : Value), BindsTo s fd ⟨[v], []⟩ [("script", v)]) ∧ ∀ base : Heap, K.In base → base.Ns mainGlobals mg → FnOk P w K mg base CX0 (k + 1) fa fd ["script"] (spD K none 1 ((Phi T n (k + 1)).phi "law")) := by
  have e := hfa.symm.trans (PySem.W.mg_of X G a1)
  cases e
  have F := fun_mk (st := st) l1 c1 k1
  refine ⟨PySem.W.fnOf "law" "law" (defArgs st) (defBody st) (defScope st) .none kV dc pm an cd ct, fun s v => .of_eq ?_, fun base _ _ => ?_⟩
  · have := b kV dc pm an cd ct [v] (by rw [hN]; rfl)
    rw [hN] at this
    exact this
  · have := def_ok (P := P) (w := w) (base := base) (n := n) (k := k) F S hps hc hT bi fun f D h => all_ok bi da k f D h
    rw [hN, hio, hp1] at this
    exact this
end Dl

/-! L0: running terms of the small language: equations, loops. -/
namespace Dl
open PySem PySem.Spec PyProof.Rows L2

section
variable {W : Wd} {n : Nat} {r : Rho}
@[simp] theorem run_var (i : Nat) : Dl.run W (.var i) r = (look r i).bind fun _ => some (.place i, r) := by rw [Dl.run]; rfl
@[simp] theorem run_non : Dl.run W .non r = some (.val .non, r) := by rw [Dl.run]
@[simp] theorem run_bl (b : Bool) : Dl.run W (.bl b) r = some (.val (.bl b), r) := by rw [Dl.run]
@[simp] theorem run_int (i : Int) : Dl.run W (.int i) r = some (.val (.int i), r) := by rw [Dl.run]
@[simp] theorem run_str (x : Str) : Dl.run W (.str x) r = some (.val (.str x), r) := by rw [Dl.run]
@[simp] theorem run_tup (es : Es) : Dl.run W (.tup es) r = (runL W es r).bind fun p => some (.val (.tup p.1), p.2) := by rw [Dl.run]; rfl
@[simp] theorem run_lst (es : Es) : Dl.run W (.lst es) r = (runL W es r).bind fun p => some (.fresh (.lst p.1), p.2) := by rw [Dl.run]; rfl
@[simp] theorem run_op1 (k : K1) (a : E) : Dl.run W (.op1 k a) r = (Dl.run W a r).bind fun p => (res p.2 p.1).bind fun d => (sem1 k d).bind fun o => some (o, p.2) := by rw [Dl.run]; rfl
@[simp] theorem run_op2 (k : K2) (a b : E) : Dl.run W (.op2 k a b) r = (Dl.run W a r).bind fun p => (res p.2 p.1).bind fun d1 => if pre2 k d1 = true then (Dl.run W b p.2).bind fun q => (res q.2 p.1).bind fun d => (res q.2 q.1).bind fun e => (sem2 k d e).bind fun o => some (o, q.2) else none := by rw [Dl.run]; rfl
@[simp] theorem run_cut (a : E) (lo hi : Oe) : Dl.run W (.cut a lo hi) r = (Dl.run W a r).bind fun p => (runO W lo p.2).bind fun l => (runO W hi l.2).bind fun h => (res h.2 p.1).bind fun d => (semCut d l.1 h.1).bind fun o => some (o, h.2) := by rw [Dl.run]; rfl
@[simp] theorem run_rev (a : E) : Dl.run W (.rev a) r = (Dl.run W a r).bind fun p => (res p.2 p.1).bind fun d => (semRev d).bind fun o => some (o, p.2) := by rw [Dl.run]; rfl
@[simp] theorem run_and (a b : E) : Dl.run W (.and a b) r = (Dl.run W a r).bind fun p => (frz p.2 p.1).bind fun d => (truthD d.1).bind fun t => if t = true then Dl.run W b d.2 else some (.val d.1, d.2) := by rw [Dl.run]; rfl
@[simp] theorem run_or (a b : E) : Dl.run W (.or a b) r = (Dl.run W a r).bind fun p => (frz p.2 p.1).bind fun d => (truthD d.1).bind fun t => if t = true then some (.val d.1, d.2) else Dl.run W b d.2 := by rw [Dl.run]; rfl
@[simp] theorem run_not (a : E) : Dl.run W (.not a) r = (Dl.run W a r).bind fun p => (res p.2 p.1).bind fun d => (truthD d).bind fun t => some (.val (.bl (!t)), p.2) := by rw [Dl.run]; rfl
@[simp] theorem run_ite (t : T) (a b : E) : Dl.run W (.ite t a b) r = (runT W t r).bind fun p => if p.1 = true then Dl.run W a p.2 else Dl.run W b p.2 := by rw [Dl.run]; rfl
@[simp] theorem run_call (f : Str) (es : Es) : Dl.run W (.call f es) r = (W.io f).bind fun io => (runA W es io r).bind fun p => (resAll p.2 p.1).bind fun ds => (W.phi f ds).bind fun z => (giveBack p.2 io p.1 z.2).bind fun r => some (z.1, r) := by rw [Dl.run]; rfl
theorem run_comp (own : List Nat) (tg : Tg) (src : Src) (c : Ot) (elt : E) : Dl.run W (.comp own tg src c elt) r = (runI W src r).bind fun p => (compD (turnC W own tg c elt) p.1 (wipeR p.2 own)).bind fun z => some (.fresh (.lst z.1), back p.2 z.2 own) := by rw [Dl.run]; rfl
theorem run_pop (i : Nat) (a : E) : Dl.run W (.pop i a) r = (look r i).bind fun s => if isLst s.d = true then (Dl.run W a r).bind fun p => (res p.2 p.1).bind fun d => (match look p.2 i, d with
      | some ⟨.lst ds, .own⟩, .int k => (ixN ds.length k).bind fun j => (ds[j]?).bind fun x => some (.val x, p.2.set i (some ⟨.lst (ds.eraseIdx j), .own⟩))
      | some ⟨.lst ds, .io⟩, .int k => (ixN ds.length k).bind fun j => (ds[j]?).bind fun x => some (.val x, p.2.set i (some ⟨.lst (ds.eraseIdx j), .io⟩))
      | _, _ => none) else none := by rw [Dl.run]; rfl
theorem run_app (i : Nat) (a : E) : Dl.run W (.app i a) r = (look r i).bind fun s => if isLst s.d = true then (Dl.run W a r).bind fun p => (frz p.2 p.1).bind fun x => (match look x.2 i with
      | some ⟨.lst ds, .own⟩ => if ds.length < sizeLine then some (.val .non, x.2.set i (some ⟨.lst (ds ++ [x.1]), .own⟩)) else none
      | some ⟨.lst ds, .io⟩ => if ds.length < sizeLine then some (.val .non, x.2.set i (some ⟨.lst (ds ++ [x.1]), .io⟩)) else none
      | _ => none) else none := by rw [Dl.run]; rfl
@[simp] theorem runL_nil : runL W .nil r = some ([], r) := by rw [runL]
@[simp] theorem runL_cons (e : E) (es : Es) : runL W (.cons e es) r = (Dl.run W e r).bind fun p => (frz p.2 p.1).bind fun d => (runL W es d.2).bind fun q => some (d.1 :: q.1, q.2) := by rw [runL]; rfl
@[simp] theorem runA_nil (k : Option Nat) : runA W .nil k r = some ([], r) := by rw [runA]
@[simp] theorem runA_io (e : E) (es : Es) : runA W (.cons e es) (some 0) r = (Dl.run W e r).bind fun p => (lend p.2 p.1).bind fun o => (runA W es none p.2).bind fun q => some (o :: q.1, q.2) := by rw [runA]; rfl
@[simp] theorem runA_none (e : E) (es : Es) : runA W (.cons e es) none r = (Dl.run W e r).bind fun p => (frz p.2 p.1).bind fun d => (runA W es none d.2).bind fun q => some (.val d.1 :: q.1, q.2) := by rw [runA]; rfl
@[simp] theorem runA_succ (e : E) (es : Es) (k : Nat) : runA W (.cons e es) (some (k + 1)) r = (Dl.run W e r).bind fun p => (frz p.2 p.1).bind fun d => (runA W es (some k) d.2).bind fun q => some (.val d.1 :: q.1, q.2) := by rw [runA]; rfl
@[simp] theorem runO_no : runO W .no r = some (none, r) := by rw [runO]
@[simp] theorem runO_yes (e : E) : runO W (.yes e) r = (Dl.run W e r).bind fun p => (match res p.2 p.1 with | some (.int i) => some (some i, p.2) | _ => none) := by rw [runO]; rfl
@[simp] theorem runOt_no : runOt W .no r = some (true, r) := by rw [runOt]
@[simp] theorem runOt_yes (t : T) : runOt W (.yes t) r = runT W t r := by rw [runOt]
@[simp] theorem runT_val (e : E) : runT W (.val e) r = (Dl.run W e r).bind fun p => (res p.2 p.1).bind fun d => (truthD d).bind fun t => some (t, p.2) := by rw [runT]; rfl
@[simp] theorem runT_cmp (k : K2) (a b : E) : runT W (.cmp k a b) r = (Dl.run W a r).bind fun p => (Dl.run W b p.2).bind fun q => (res q.2 p.1).bind fun d => (res q.2 q.1).bind fun e => (match sem2 k d e with | some (.val (.bl t)) => some (t, q.2) | _ => none) := by rw [runT]; rfl
@[simp] theorem runT_not (t : T) : runT W (.not t) r = (runT W t r).bind fun p => some (!p.1, p.2) := by rw [runT]; rfl
@[simp] theorem runT_and (a b : T) : runT W (.and a b) r = (runT W a r).bind fun p => if p.1 = true then runT W b p.2 else some (false, p.2) := by rw [runT]; rfl
@[simp] theorem runT_or (a b : T) : runT W (.or a b) r = (runT W a r).bind fun p => if p.1 = true then some (true, p.2) else runT W b p.2 := by rw [runT]; rfl
@[simp] theorem runI_seq (e : E) : runI W (.seq e) r = (Dl.run W e r).bind fun p => (frz p.2 p.1).bind fun d => (items d.1).bind fun ds => some (ds, d.2) := by rw [runI]; rfl
theorem runI_rng1 (a : E) : runI W (.rng1 a) r = (Dl.run W a r).bind fun p => (match res p.2 p.1 with | some (.int n) => if -(2 ^ 62) ≤ n ∧ n.toNat ≤ sizeLine then some (rangeD 0 n.toNat, p.2) else none | _ => none) := by rw [runI]; rfl
theorem runI_rng2 (a b : E) : runI W (.rng2 a b) r = (Dl.run W a r).bind fun p => (Dl.run W b p.2).bind fun q => (match res q.2 p.1, res q.2 q.1 with | some (.int i), some (.int j) => if -(2 ^ 62) ≤ i ∧ i < 2 ^ 62 ∧ -(2 ^ 62) ≤ j ∧ j < 2 ^ 62 ∧ (j - i).toNat ≤ sizeLine then some (rangeD i (j - i).toNat, q.2) else none | _, _ => none) := by rw [runI]; rfl
/-- one turn of a for -/
def stepF (W : Wd) (n : Nat) (tg : Tg) (body : Ss) (d : Dat) (r : Rho) : Option Fl := (bindT r tg d).bind fun r => runB W n body r
@[simp] theorem runS_expr (e : E) : runS W n (.expr e) r = (Dl.run W e r).bind fun p => some (.next p.2) := by rw [runS]; rfl
@[simp] theorem runS_set (i : Nat) (e : E) : runS W n (.set i e) r = (Dl.run W e r).bind fun p => (store p.2 i p.1).bind fun r => some (.next r) := by rw [runS]; rfl
@[simp] theorem runS_unp (is : List Nat) (e : E) : runS W n (.unp is e) r = (Dl.run W e r).bind fun p => (frz p.2 p.1).bind fun d => (match d.1 with | .tup ds => (putAll d.2 is ds).bind fun r => some (.next r) | _ => none) := by rw [runS]; rfl
theorem runS_setAt (i : Nat) (ix e : E) : runS W n (.setAt i ix e) r = (Dl.run W e r).bind fun p => (frz p.2 p.1).bind fun x => (look x.2 i).bind fun _ => (Dl.run W ix x.2).bind fun q => (match look q.2 i, res q.2 q.1 with
    | some ⟨.lst ds, .own⟩, some (.int k) => (ixN ds.length k).bind fun j => some (.next (q.2.set i (some ⟨.lst (ds.set j x.1), .own⟩)))
    | some ⟨.lst ds, .io⟩, some (.int k) => (ixN ds.length k).bind fun j => some (.next (q.2.set i (some ⟨.lst (ds.set j x.1), .io⟩)))
    | _, _ => none) := by rw [runS]; rfl
@[simp] theorem runS_ife (t : T) (a b : Ss) : runS W n (.ife t a b) r = (runT W t r).bind fun p => if p.1 = true then runB W n a p.2 else runB W n b p.2 := by rw [runS]; rfl
theorem runS_for (tg : Tg) (src : Src) (body : Ss) (wp : List Nat) : runS W n (.for_ tg src body wp) r = (runI W src r).bind fun p => forD (stepF W n tg body) wp p.1 (wipeR p.2 wp) := by rw [runS]; rfl
theorem runS_whl (t : T) (body : Ss) (wp : List Nat) : runS W n (.whl t body wp) r = whlD (runT W t) (runB W n body) wp n (wipeR r wp) := by rw [runS]
@[simp] theorem runS_ret (e : E) : runS W n (.ret e) r = (Dl.run W e r).bind fun p => some (.ret p.1 p.2) := by rw [runS]; rfl
@[simp] theorem runS_retN : runS W n .retN r = some (.ret (.val .non) r) := by rw [runS]
@[simp] theorem runS_pass : runS W n .pass r = some (.next r) := by rw [runS]
@[simp] theorem runS_brk : runS W n .brk r = some (.brk r) := by rw [runS]
@[simp] theorem runS_cont : runS W n .cont r = some (.cont r) := by rw [runS]
@[simp] theorem runB_nil : runB W n .nil r = some (.next r) := by rw [runB]
/-- a statement, and what follows it -/
def thenB (x : Option Fl) (k : Rho → Option Fl) : Option Fl := match x with
  | some (.next r) => k r
  | x => x
@[simp] theorem thenB_next (k : Rho → Option Fl) : thenB (some (.next r)) k = k r := rfl
@[simp] theorem thenB_ret (o : Out) (k : Rho → Option Fl) : thenB (some (.ret o r)) k = some (.ret o r) := rfl
@[simp] theorem thenB_brk (k : Rho → Option Fl) : thenB (some (.brk r)) k = some (.brk r) := rfl
@[simp] theorem thenB_cont (k : Rho → Option Fl) : thenB (some (.cont r)) k = some (.cont r) := rfl
@[simp] theorem runB_cons (s : S) (ss : Ss) : runB W n (.cons s ss) r = thenB (runS W n s r) (runB W n ss) := by
  rw [runB]
  cases runS W n s r with
  | none => rfl
  | some f => cases f <;> rfl
theorem runB_next {s : S} {ss : Ss} {r' : Rho} (h : runS W n s r = some (.next r')) : runB W n (.cons s ss) r = runB W n ss r' := by rw [runB_cons, h]; rfl
theorem runB_ret {s : S} {ss : Ss} {o : Out} {r' : Rho} (h : runS W n s r = some (.ret o r')) : runB W n (.cons s ss) r = some (.ret o r') := by rw [runB_cons, h]; rfl
end

theorem runD_val {W : Wd} {n : Nat} {D : Df} {ds : List Dat} {x d : Dat} {r : Rho} (hl : ds.length = D.ps) (h : runB W n D.body (startR D ds) = some (.ret (.val x) r)) (hd : leftR D r = some d) : runD W n D ds = some (.val x, d) := by
  unfold runD
  rw [if_pos hl, h]
  dsimp only
  rw [hd]
  rfl
theorem runD_fresh {W : Wd} {n : Nat} {D : Df} {ds : List Dat} {x d : Dat} {r : Rho} (hl : ds.length = D.ps) (h : runB W n D.body (startR D ds) = some (.ret (.fresh x) r)) (hd : leftR D r = some d) : runD W n D ds = some (.fresh x, d) := by
  unfold runD
  rw [if_pos hl, h]
  dsimp only
  rw [hd]
  rfl
theorem runD_at {W : Wd} {n : Nat} {D : Df} {ds : List Dat} {x d : Dat} {r : Rho} {j : Nat} (hl : ds.length = D.ps) (h : runB W n D.body (startR D ds) = some (.ret (.place j) r)) (hx : look r j = some ⟨x, .fz⟩) (hd : leftR D r = some d) : runD W n D ds = some (.val x, d) := by
  unfold runD
  rw [if_pos hl, h]
  dsimp only
  rw [hx]
  dsimp only
  rw [hd]
  rfl
theorem runD_own {W : Wd} {n : Nat} {D : Df} {ds : List Dat} {x d : Dat} {r : Rho} {j : Nat} (hl : ds.length = D.ps) (h : runB W n D.body (startR D ds) = some (.ret (.place j) r)) (hx : look r j = some ⟨x, .own⟩) (hd : leftR D r = some d) : runD W n D ds = some (.fresh x, d) := by
  unfold runD
  rw [if_pos hl, h]
  dsimp only
  rw [hx]
  dsimp only
  rw [hd]
  rfl
theorem erase_map {α β : Type} (f : α → β) : ∀ (l : List α) (i : Nat), (l.map f).eraseIdx i = (l.eraseIdx i).map f
  | [], _ => rfl
  | _ :: _, 0 => rfl
  | x :: l, i + 1 => congrArg (f x :: ·) (erase_map f l i)
theorem drop_map {α β : Type} (f : α → β) (l : List α) (i : Nat) : (l.map f).drop i = (l.drop i).map f := by simp
/-! ### loops -/
section
variable {f : Dat → Rho → Option Fl} {wp : List Nat}
/-- a for whose turns all go on: an invariant of the state -/
theorem forD_inv (I : List Dat → Rho → Prop) : ∀ (ds pre : List Dat) (r : Rho), I pre r → (∀ pre d post r, pre ++ d :: post = pre ++ d :: post → d ∈ ds → I pre r → ∃ r', f d r = some (.next r') ∧ I (pre ++ [d]) (wipeR r' wp)) → ∃ r', forD f wp ds r = some (.next r') ∧ I (pre ++ ds) r'
  | [], pre, r, h, _ => ⟨r, rfl, by rw [List.append_nil]; exact h⟩
  | d :: ds, pre, r, h, hs => by
    obtain ⟨r1, h1, h2⟩ := hs pre d ds r rfl List.mem_cons_self h
    obtain ⟨r2, h3, h4⟩ := forD_inv I ds (pre ++ [d]) _ h2 fun pre e post r _ he hi => hs pre e post r rfl (List.mem_cons_of_mem _ he) hi
    refine ⟨r2, ?_, by rw [← List.append_cons] at h4; exact h4⟩
    rw [forD, h1]
    exact h3
/-- .. the state a function of what was taken -/
theorem forD_fold {α : Type} (st : α → Rho) (g : α → Dat → α) (P : α → Prop) : ∀ (ds : List Dat) (a : α), P a → (∀ a d, d ∈ ds → P a → P (g a d) ∧ ∃ r', f d (st a) = some (.next r') ∧ wipeR r' wp = st (g a d)) → forD f wp ds (st a) = some (.next (st (ds.foldl g a))) ∧ P (ds.foldl g a)
  | [], a, h, _ => ⟨rfl, h⟩
  | d :: ds, a, h, hs => by
    obtain ⟨h1, r', h2, h3⟩ := hs a d List.mem_cons_self h
    have ih := forD_fold st g P ds (g a d) h1 fun a e he hp => hs a e (List.mem_cons_of_mem _ he) hp
    rw [forD, h2]
    dsimp only
    rw [h3]
    exact ih
end
section
variable {f : Dat → Rho → Option (Option Dat × Rho)}
/-- a comprehension without a test: each item gives one with P; I by the turn -/
theorem compD_inv (N : Nat) (I : Nat → Rho → Prop) (P : Dat → Prop) : ∀ (ds : List Dat) (i : Nat) (r : Rho), i + ds.length = N → I i r → (∀ i d r, i < N → d ∈ ds → I i r → ∃ x r', f d r = some (some x, r') ∧ P x ∧ I (i + 1) r') → ∃ xs r', compD f ds r = some (xs, r') ∧ xs.length = ds.length ∧ (∀ x ∈ xs, P x) ∧ I N r'
  | [], i, r, hN, h, _ => ⟨[], r, rfl, rfl, fun _ q => (nomatch q), by rw [← hN]; exact h⟩
  | d :: ds, i, r, hN, h, hs => by
    rw [List.length_cons] at hN
    obtain ⟨x, r1, h1, h2, h3⟩ := hs i d r (by omega) List.mem_cons_self h
    obtain ⟨xs, r2, h4, h5, h6, h7⟩ := compD_inv N I P ds (i + 1) r1 (by omega) h3 fun i d r hi hd hI => hs i d r hi (List.mem_cons_of_mem _ hd) hI
    refine ⟨x :: xs, r2, ?_, by rw [List.length_cons, List.length_cons, h5], fun y hy => ?_, h7⟩
    · rw [compD, h1]
      show (compD f ds r1).bind _ = _
      rw [h4]
      rfl
    · rcases List.mem_cons.mp hy with rfl | hy
      · exact h2
      · exact h6 y hy
/-- .. with a test: an item is given or left out -/
theorem compD_filter (I : Rho → Prop) (P : Dat → Prop) : ∀ (ds : List Dat) (r : Rho), I r → (∀ d r, d ∈ ds → I r → ∃ x r', f d r = some (x, r') ∧ (∀ y, x = some y → P y) ∧ I r') → ∃ xs r', compD f ds r = some (xs, r') ∧ xs.length ≤ ds.length ∧ (∀ x ∈ xs, P x) ∧ I r'
  | [], r, h, _ => ⟨[], r, rfl, Nat.le_refl _, fun _ q => (nomatch q), h⟩
  | d :: ds, r, h, hs => by
    obtain ⟨x, r1, h1, h2, h3⟩ := hs d r List.mem_cons_self h
    obtain ⟨xs, r2, h4, h5, h6, h7⟩ := compD_filter I P ds r1 h3 fun d r hd hi => hs d r (List.mem_cons_of_mem _ hd) hi
    cases x with
    | none =>
      refine ⟨xs, r2, ?_, Nat.le_succ_of_le h5, h6, h7⟩
      rw [compD, h1]
      show (compD f ds r1).bind _ = _
      rw [h4]
      rfl
    | some y =>
      refine ⟨y :: xs, r2, ?_, by rw [List.length_cons, List.length_cons]; omega, fun z hz => ?_, h7⟩
      · rw [compD, h1]
        show (compD f ds r1).bind _ = _
        rw [h4]
        rfl
      · rcases List.mem_cons.mp hz with rfl | hz
        · exact h2 _ rfl
        · exact h6 z hz
/-- .. reckoned -/
theorem compD_map (st : Rho) (g : Dat → Dat) : ∀ (ds : List Dat), (∀ d, d ∈ ds → f d st = some (some (g d), st)) → compD f ds st = some (ds.map g, st)
  | [], _ => rfl
  | d :: ds, hs => by
    rw [compD, hs d List.mem_cons_self]
    show (compD f ds st).bind _ = _
    rw [compD_map st g ds fun e he => hs e (List.mem_cons_of_mem _ he)]
    rfl
end
theorem rangeD_mem {lo : Int} {n : Nat} {d : Dat} (h : d ∈ rangeD lo n) : ∃ k : Nat, k < n ∧ d = .int (lo + k) := by
  unfold rangeD at h
  obtain ⟨k, hk, rfl⟩ := List.mem_map.mp h
  exact ⟨k, List.mem_range.mp hk, rfl⟩
theorem rangeD_len (lo : Int) (n : Nat) : (rangeD lo n).length = n := by
  unfold rangeD
  rw [List.length_map, List.length_range]
/-- the place of a sign in a text -/
theorem index_one {x : Str} {c : Nat} (h : c ∈ x.cps.toList) : ∃ k : Nat, Txt.index0 x ⟨#[c]⟩ = some k ∧ k < x.length := by
  have h1 := StrLaws.found_one x c
  rw [decide_eq_true h] at h1
  unfold Txt.index0
  cases ho : Builtin.Str.occurrences x ⟨#[c]⟩ 0 x.length 1 with
  | nil => rw [ho] at h1; cases h1
  | cons k rest =>
    refine ⟨k, rfl, ?_⟩
    have := (StrLaws.occ_spec x ⟨#[c]⟩ 0 x.length 1 k (by rw [ho]; exact List.mem_cons_self)).1
    have e : (⟨#[c]⟩ : Str).length = 1 := rfl
    omega
/-! ### texts by their signs -/
/-- the text of one sign -/
def sg (c : Nat) : Str := ⟨#[c]⟩
theorem signs_eq (x : Str) : signs x = x.cps.toList.map sg := rfl
theorem joinL_nil : ∀ ps : List (List Nat), TL.joinL [] ps = ps.flatten
  | [] => rfl
  | [p] => by simp [TL.joinL]
  | p :: q :: r => by
    show p ++ ([] ++ TL.joinL [] (q :: r)) = _
    rw [List.nil_append, joinL_nil (q :: r)]
    rfl
theorem join_signs (cs : List Nat) : Txt.join ⟨#[]⟩ (cs.map sg) = ⟨cs.toArray⟩ := by
  apply TL.ext_tl
  rw [TL.join_eq, TL.tl_join]
  show TL.joinL [] _ = cs
  rw [joinL_nil, List.map_map]
  induction cs with
  | nil => rfl
  | cons c cs ih =>
    rw [List.map_cons, List.flatten_cons, ih]
    rfl
theorem sum_ones (cs : List Nat) : ((cs.map sg).map (·.length)).sum = cs.length := by
  induction cs with
  | nil => rfl
  | cons c cs ih =>
    rw [List.map_cons, List.map_cons, List.sum_cons, ih, List.length_cons]
    show 1 + _ = _
    omega
/-- joining signs -/
theorem semJoin_signs (cs : List Nat) (h : cs.length ≤ 1000) : semJoin (.str "") (.lst ((cs.map sg).map .str)) = some (.val (.str ⟨cs.toArray⟩)) := by
  have e : ("" : Str) = ⟨#[]⟩ := rfl
  unfold semJoin
  dsimp only
  rw [strsOf_map]
  dsimp only
  rw [sum_ones, e, join_signs, if_pos]
  show cs.length + _ * 0 ≤ sizeLine
  rw [Nat.mul_zero, Nat.add_zero]
  exact small_line h
theorem ltS_sg (a b : Nat) : ltS (sg a) (sg b) = decide (a < b) := by
  show ltCps [a] [b] = _
  simp [ltCps]
/-- sorting signs -/
def insN (x : Nat) : List Nat → List Nat
  | [] => [x]
  | y :: r => if y < x then y :: insN x r else x :: y :: r
def sortN : List Nat → List Nat
  | [] => []
  | x :: r => insN x (sortN r)
theorem insS_sg (x : Nat) : ∀ l : List Nat, insS (sg x) (l.map sg) = (insN x l).map sg
  | [] => rfl
  | y :: r => by
    rw [List.map_cons]
    unfold insS insN
    rw [ltS_sg]
    by_cases h : y < x
    · rw [if_pos h, if_pos (decide_eq_true h), insS_sg x r]
      rfl
    · rw [if_neg h, if_neg (by simpa using h)]
      rfl
theorem sortS_sg : ∀ l : List Nat, sortS (l.map sg) = (sortN l).map sg
  | [] => rfl
  | x :: r => by
    rw [List.map_cons]
    unfold sortS sortN
    rw [sortS_sg r, insS_sg]
theorem insN_perm (x : Nat) : ∀ l : List Nat, (insN x l).Perm (x :: l)
  | [] => List.Perm.refl _
  | y :: r => by
    unfold insN
    split
    · exact ((insN_perm x r).cons y).trans (List.Perm.swap x y r)
    · exact List.Perm.refl _
theorem sortN_perm : ∀ l : List Nat, (sortN l).Perm l
  | [] => List.Perm.refl _
  | x :: r => (insN_perm x (sortN r)).trans ((sortN_perm r).cons x)
theorem semSorted_sg (cs : List Nat) (h : cs.length < 64) : semSorted (.lst ((cs.map sg).map .str)) = some (.fresh (.lst (((sortN cs).map sg).map .str))) := by
  unfold semSorted
  dsimp only
  rw [strsOf_map]
  dsimp only
  rw [if_pos (by rw [List.length_map]; exact h), sortS_sg]
theorem semAt_str {cs : List Nat} {i : Int} (h0 : 0 ≤ i) (h1 : i < cs.length) : ∃ c, c ∈ cs ∧ semAt (.str ⟨cs.toArray⟩) (.int i) = some (.val (.str (sg c))) := by
  have hi : i.toNat < cs.length := by omega
  refine ⟨cs[i.toNat], List.getElem_mem hi, ?_⟩
  show (atI cs i).map _ = _
  have e : ((i.toNat : Nat) : Int) = i := by omega
  have := atI_nat (xs := cs) (j := i.toNat) (List.getElem?_eq_getElem hi)
  rw [e] at this
  rw [this]
  rfl
theorem atI_of {α : Type} {xs : List α} {i : Int} (h0 : 0 ≤ i) (h1 : i < xs.length) : ∃ (hi : i.toNat < xs.length), atI xs i = some xs[i.toNat] := by
  have hi : i.toNat < xs.length := by omega
  refine ⟨hi, ?_⟩
  have e : ((i.toNat : Nat) : Int) = i := by omega
  have := atI_nat (xs := xs) (j := i.toNat) (List.getElem?_eq_getElem hi)
  rw [e] at this
  exact this
theorem ixN_of {n : Nat} {i : Int} (h0 : 0 ≤ i) (h1 : i < n) : ixN n i = some i.toNat := by
  unfold ixN
  rw [if_pos h0, if_pos h1]
theorem all_of {α β : Type} {P : α → Prop} {f : β → α} {xs : List α} (h : ∀ x ∈ xs, ∃ y, x = f y ∧ P x) : ∃ ys : List β, xs = ys.map f ∧ ∀ y ∈ ys, P (f y) := by
  induction xs with
  | nil => exact ⟨[], rfl, fun _ q => (nomatch q)⟩
  | cons x xs ih =>
    obtain ⟨y, rfl, hp⟩ := h x List.mem_cons_self
    obtain ⟨ys, rfl, hy⟩ := ih fun z hz => h z (List.mem_cons_of_mem _ hz)
    refine ⟨y :: ys, rfl, fun z hz => ?_⟩
    rcases List.mem_cons.mp hz with rfl | hz
    · exact hp
    · exact hy z hz
/-! ### arithmetic, where it is known -/
theorem mul_eq {i j : Int} (h : -18446744073709551616 < i ∧ i < 18446744073709551616) : semMul (.int i) (.int j) = some (.val (.int (i * j))) := if_pos (.inl h)
theorem mul_eq' {i j : Int} (h : -18446744073709551616 < j ∧ j < 18446744073709551616) : semMul (.int i) (.int j) = some (.val (.int (i * j))) := if_pos (.inr h)
theorem div_eq {i j : Int} (h : 0 < j) (h2 : j < 1073741824) : semDiv (.int i) (.int j) = some (.val (.int (i / j))) := if_pos ⟨h, h2⟩
theorem mod_eq {i j : Int} (h : 0 < j) : semMod (.int i) (.int j) = some (.val (.int (i % j))) := if_pos h
end Dl

namespace K
open PySem PySem.Spec PyProof.Rows L2 Dl
/-! ### the text as terms of the small language (printed by gen.py) -/
def d_state_behind : Df := { N := ["machine", "word", "state", "sign", "letters", "table", "ends"], ps := 2, io := none, body :=
    (.cons (.unp [4, 5, 6] (.var 0))
    (.cons (.set 2 (.int 0))
    (.cons (.for_ (.name 3) (.seq (.var 1)) (.cons (.set 2 (.op2 .at (.op2 .at (.var 5) (.var 2)) (.op2 .index (.var 4) (.var 3))))
    .nil) [0, 1, 3, 6])
    (.cons (.ret (.var 2))
    .nil)))) }
def d_has : Df := { N := ["machine", "word"], ps := 2, io := none, body :=
    (.cons (.ret (.op2 .isIn (.call "state_behind" (.cons (.var 0) (.cons (.var 1) .nil))) (.op2 .at (.var 0) (.int 2))))
    .nil) }
def d_law_stream : Df := { N := ["cell", "low"], ps := 1, io := none, body :=
    (.cons (.set 1 (.op2 .mod (.var 0) (.int 536870909)))
    (.cons (.set 1 (.op2 .mod (.op2 .add (.op2 .mul (.op2 .mod (.op2 .mul (.var 1) (.var 1)) (.int 536870909)) (.op2 .add (.var 1) (.int 7))) (.int 13)) (.int 536870909)))
    (.cons (.ret (.lst (.cons (.var 0) (.cons (.var 1) (.cons (.op1 .int (.op2 .ge (.var 0) (.op2 .pow (.int 10) (.int 18)))) .nil)))))
    .nil))) }
def d_law_take : Df := { N := ["row", "many", "got"], ps := 2, io := some 0, body :=
    (.cons (.ife (.cmp .eq (.op2 .at (.var 0) (.int 2)) (.int 1)) (.cons (.set 2 (.op2 .mod (.op2 .at (.var 0) (.int 0)) (.var 1)))
    (.cons (.setAt 0 (.int 0) (.op2 .div (.op2 .at (.var 0) (.int 0)) (.var 1)))
    (.cons (.ret (.var 2))
    .nil))) .nil)
    (.cons (.setAt 0 (.int 1) (.op2 .mod (.op2 .mul (.op2 .add (.op2 .at (.var 0) (.int 1)) (.int 7919)) (.op2 .add (.op2 .at (.var 0) (.int 1)) (.int 104729))) (.int 536870909)))
    (.cons (.ret (.op2 .mod (.op2 .div (.op2 .add (.op2 .mul (.op2 .at (.var 0) (.int 1)) (.int 48271)) (.int 11)) (.int 64)) (.var 1)))
    .nil))) }
def d_law_letters : Df := { N := ["row", "many", "left", "k"], ps := 1, io := some 0, body :=
    (.cons (.set 1 (.op2 .add (.int 1) (.call "_law_take" (.cons (.var 0) (.cons (.int 5) .nil)))))
    (.cons (.set 2 (.op1 .list (.str "abcdefghijklmnopqrstuvwxyz")))
    (.cons (.ife (.cmp .eq (.call "_law_take" (.cons (.var 0) (.cons (.int 2) .nil))) (.int 0)) (.cons (.set 2 (.cut (.cut (.var 2) (.yes (.call "_law_take" (.cons (.var 0) (.cons (.int 22) .nil)))) .no) .no (.yes (.var 1))))
    .nil) .nil)
    (.cons (.ret (.op2 .join (.str "") (.op1 .sorted (.comp [3] (.name 3) (.rng1 (.var 1)) .no (.pop 2 (.call "_law_take" (.cons (.var 0) (.cons (.op1 .len (.var 2)) .nil))))))))
    .nil)))) }
def d_law_machine : Df := { N := ["row", "letters", "most", "many", "table", "ends", "state", "sign"], ps := 3, io := some 0, body :=
    (.cons (.set 3 (.op2 .add (.int 1) (.call "_law_take" (.cons (.var 0) (.cons (.var 2) .nil)))))
    (.cons (.set 4 (.comp [6] (.name 6) (.rng1 (.var 3)) .no (.op1 .tuple (.comp [7] (.name 7) (.seq (.var 1)) .no (.call "_law_take" (.cons (.var 0) (.cons (.var 3) .nil)))))))
    (.cons (.set 5 (.comp [6] (.name 6) (.rng1 (.var 3)) (.yes (.cmp .eq (.call "_law_take" (.cons (.var 0) (.cons (.int 2) .nil))) (.int 1))) (.var 6)))
    (.cons (.ret (.tup (.cons (.var 1) (.cons (.op1 .tuple (.var 4)) (.cons (.op1 .tuple (.var 5)) .nil)))))
    .nil)))) }
def d_law_word : Df := { N := ["row", "letters", "most", "k"], ps := 3, io := some 0, body :=
    (.cons (.ret (.op2 .join (.str "") (.comp [3] (.name 3) (.rng1 (.call "_law_take" (.cons (.var 0) (.cons (.op2 .add (.var 2) (.int 1)) .nil)))) .no (.op2 .at (.var 1) (.call "_law_take" (.cons (.var 0) (.cons (.op1 .len (.var 1)) .nil)))))))
    .nil) }
def d_law_truth : Df := { N := ["found", "due"], ps := 2, io := none, body :=
    (.cons (.ret (.and (.op1 (.isi "bool") (.var 0)) (.op2 .eq (.var 0) (.var 1))))
    .nil) }
def d_law_right : Df := { N := ["machine", "words", "word", "state", "sign"], ps := 2, io := none, body :=
    (.cons (.for_ (.name 2) (.seq (.op2 .add (.var 1) (.rev (.var 1)))) (.cons (.set 3 (.int 0))
    (.cons (.for_ (.name 4) (.seq (.var 2)) (.cons (.set 3 (.op2 .at (.op2 .at (.op2 .at (.var 0) (.int 1)) (.var 3)) (.op2 .index (.op2 .at (.var 0) (.int 0)) (.var 4))))
    .nil) [1, 4])
    (.cons (.ife (.not (.val (.call "_law_truth" (.cons (.call "has" (.cons (.var 0) (.cons (.var 2) .nil))) (.cons (.op2 .isIn (.var 3) (.op2 .at (.var 0) (.int 2))) .nil))))) (.cons (.ret (.bl false))
    .nil) .nil)
    .nil))) [1, 2, 3, 4])
    (.cons (.ret (.bl true))
    .nil)) }
def d_law : Df := { N := ["script", "cell", "row", "letters", "machine", "words", "k"], ps := 1, io := none, body :=
    (.cons (.for_ (.name 1) (.seq (.op2 .add (.lst (.cons (.int 0) .nil)) (.cut (.var 0) .no (.yes (.int 63))))) (.cons (.set 2 (.call "_law_stream" (.cons (.var 1) .nil)))
    (.cons (.set 3 (.call "_law_letters" (.cons (.var 2) .nil)))
    (.cons (.set 4 (.call "_law_machine" (.cons (.var 2) (.cons (.var 3) (.cons (.op2 .at (.lst (.cons (.int 12) (.cons (.int 12) (.cons (.int 12) (.cons (.int 60) .nil))))) (.call "_law_take" (.cons (.var 2) (.cons (.int 4) .nil)))) .nil)))))
    (.cons (.set 5 (.lst (.cons (.str "") (.cons (.op2 .at (.var 3) (.int 0)) (.cons (.var 3) (.cons (.op2 .mul (.cut (.var 3) (.yes (.op1 .neg (.int 1))) .no) (.int 40)) (.cons (.call "_law_word" (.cons (.var 2) (.cons (.var 3) (.cons (.int 40) .nil)))) .nil)))))))
    (.cons (.set 5 (.op2 .add (.var 5) (.comp [6] (.name 6) (.rng1 (.int 4)) .no (.call "_law_word" (.cons (.var 2) (.cons (.var 3) (.cons (.int 6) .nil)))))))
    (.cons (.ife (.not (.val (.call "_law_right" (.cons (.var 4) (.cons (.var 5) .nil))))) (.cons (.ret (.bl false))
    .nil) .nil)
    .nil)))))) [0, 1, 2, 3, 4, 5, 6])
    (.cons (.ret (.and (.op2 .is (.call "has" (.cons (.tup (.cons (.str "a") (.cons (.tup (.cons (.tup (.cons (.int 0) .nil)) .nil)) (.cons (.tup (.cons (.int 0) .nil)) .nil)))) (.cons (.str "") .nil))) (.bl true)) (.op2 .is (.call "has" (.cons (.tup (.cons (.str "a") (.cons (.tup (.cons (.tup (.cons (.int 1) .nil)) (.cons (.tup (.cons (.int 0) .nil)) .nil))) (.cons (.tup (.cons (.int 1) .nil)) .nil)))) (.cons (.str "aa") .nil))) (.bl false))))
    .nil)) }
def TT : List (Str × Df) := [("state_behind", d_state_behind),
  ("has", d_has),
  ("_law_stream", d_law_stream),
  ("_law_take", d_law_take),
  ("_law_letters", d_law_letters),
  ("_law_machine", d_law_machine),
  ("_law_word", d_law_word),
  ("_law_truth", d_law_truth),
  ("_law_right", d_law_right),
  ("law", d_law)]
def topS (i : Nat) : Stmt := PySem.Challenge.pw_likehands_k02_words_a_machine_has.main.body.getD i (.Pass ⟨0, 0, 0, 0⟩)
abbrev s_state_behind : Stmt := topS 1
abbrev s_has : Stmt := topS 2
abbrev s_law_stream : Stmt := topS 4
abbrev s_law_take : Stmt := topS 5
abbrev s_law_letters : Stmt := topS 6
abbrev s_law_machine : Stmt := topS 7
abbrev s_law_word : Stmt := topS 8
abbrev s_law_truth : Stmt := topS 9
abbrev s_law_right : Stmt := topS 10
abbrev s_law : Stmt := topS 11
theorem ck_state_behind : chkB ⟨d_state_behind.N, defScope s_state_behind, defScope s_state_behind, proN d_state_behind.io, TT⟩ d_state_behind.body (defBody s_state_behind) = true := by decide +kernel
theorem sc_state_behind : FnScope d_state_behind.N (d_state_behind.N.take d_state_behind.ps) (defScope s_state_behind) := ⟨rfl, rfl, rfl, by decide +kernel, rfl, by decide +kernel, by decide +kernel⟩
theorem ck_has : chkB ⟨d_has.N, defScope s_has, defScope s_has, proN d_has.io, TT⟩ d_has.body (defBody s_has) = true := by decide +kernel
theorem sc_has : FnScope d_has.N (d_has.N.take d_has.ps) (defScope s_has) := ⟨rfl, rfl, rfl, by decide +kernel, rfl, by decide +kernel, by decide +kernel⟩
theorem ck_law_stream : chkB ⟨d_law_stream.N, defScope s_law_stream, defScope s_law_stream, proN d_law_stream.io, TT⟩ d_law_stream.body (defBody s_law_stream) = true := by decide +kernel
theorem sc_law_stream : FnScope d_law_stream.N (d_law_stream.N.take d_law_stream.ps) (defScope s_law_stream) := ⟨rfl, rfl, rfl, by decide +kernel, rfl, by decide +kernel, by decide +kernel⟩
theorem ck_law_take : chkB ⟨d_law_take.N, defScope s_law_take, defScope s_law_take, proN d_law_take.io, TT⟩ d_law_take.body (defBody s_law_take) = true := by decide +kernel
theorem sc_law_take : FnScope d_law_take.N (d_law_take.N.take d_law_take.ps) (defScope s_law_take) := ⟨rfl, rfl, rfl, by decide +kernel, rfl, by decide +kernel, by decide +kernel⟩
theorem ck_law_letters : chkB ⟨d_law_letters.N, defScope s_law_letters, defScope s_law_letters, proN d_law_letters.io, TT⟩ d_law_letters.body (defBody s_law_letters) = true := by decide +kernel
theorem sc_law_letters : FnScope d_law_letters.N (d_law_letters.N.take d_law_letters.ps) (defScope s_law_letters) := ⟨rfl, rfl, rfl, by decide +kernel, rfl, by decide +kernel, by decide +kernel⟩
theorem ck_law_machine : chkB ⟨d_law_machine.N, defScope s_law_machine, defScope s_law_machine, proN d_law_machine.io, TT⟩ d_law_machine.body (defBody s_law_machine) = true := by decide +kernel
theorem sc_law_machine : FnScope d_law_machine.N (d_law_machine.N.take d_law_machine.ps) (defScope s_law_machine) := ⟨rfl, rfl, rfl, by decide +kernel, rfl, by decide +kernel, by decide +kernel⟩
theorem ck_law_word : chkB ⟨d_law_word.N, defScope s_law_word, defScope s_law_word, proN d_law_word.io, TT⟩ d_law_word.body (defBody s_law_word) = true := by decide +kernel
theorem sc_law_word : FnScope d_law_word.N (d_law_word.N.take d_law_word.ps) (defScope s_law_word) := ⟨rfl, rfl, rfl, by decide +kernel, rfl, by decide +kernel, by decide +kernel⟩
theorem ck_law_truth : chkB ⟨d_law_truth.N, defScope s_law_truth, defScope s_law_truth, proN d_law_truth.io, TT⟩ d_law_truth.body (defBody s_law_truth) = true := by decide +kernel
theorem sc_law_truth : FnScope d_law_truth.N (d_law_truth.N.take d_law_truth.ps) (defScope s_law_truth) := ⟨rfl, rfl, rfl, by decide +kernel, rfl, by decide +kernel, by decide +kernel⟩
theorem ck_law_right : chkB ⟨d_law_right.N, defScope s_law_right, defScope s_law_right, proN d_law_right.io, TT⟩ d_law_right.body (defBody s_law_right) = true := by decide +kernel
theorem sc_law_right : FnScope d_law_right.N (d_law_right.N.take d_law_right.ps) (defScope s_law_right) := ⟨rfl, rfl, rfl, by decide +kernel, rfl, by decide +kernel, by decide +kernel⟩
theorem ck_law : chkB ⟨d_law.N, defScope s_law, defScope s_law, proN d_law.io, TT⟩ d_law.body (defBody s_law) = true := by decide +kernel
theorem sc_law : FnScope d_law.N (d_law.N.take d_law.ps) (defScope s_law) := ⟨rfl, rfl, rfl, by decide +kernel, rfl, by decide +kernel, by decide +kernel⟩
end K

namespace K
open PySem PySem.Spec PyProof.Rows L2 Dl

/-- a stream of draws -/
def IsRow (d : Dat) : Prop := ∃ a b c : Int, d = .lst [.int a, .int b, .int c] ∧ 0 ≤ b ∧ b < 536870909 ∧ (c = 0 ∨ c = 1)
theorem take_run (W : Wd) (n : Nat) {row : Dat} {m : Int} (hr : IsRow row) (h0 : 0 < m) (h1 : m < 1073741824) :
    ∃ v row', runD W n d_law_take [row, .int m] = some (.val (.int v), row') ∧ 0 ≤ v ∧ v < m ∧ IsRow row' := by
  obtain ⟨a, b, c, rfl, hb0, hb1, hc⟩ := hr
  rcases hc with rfl | rfl
  · have hm : 0 ≤ (b + 7919) * (b + 104729) % 536870909 ∧ (b + 7919) * (b + 104729) % 536870909 < 536870909 := ⟨Int.emod_nonneg _ (by decide), Int.emod_lt_of_pos _ (by decide)⟩
    generalize hb' : (b + 7919) * (b + 104729) % 536870909 = b' at hm
    refine ⟨(b' * 48271 + 11) / 64 % m, .lst [.int a, .int b', .int 0], ?_, Int.emod_nonneg _ (by omega), Int.emod_lt_of_pos _ h0, a, b', 0, rfl, hm.1, hm.2, .inl rfl⟩
    have m1 := mul_eq (i := b + 7919) (j := b + 104729) (by omega)
    have m2 := mul_eq (i := b') (j := 48271) (by omega)
    simp [runD, d_law_take, startR, look, res, sem2, semAt, atI, ixN, semEq, eqD, semMod, semAdd, semDiv, store, frz, leftR, pre2, runS_setAt, m1, hb', m2, h0]
  · refine ⟨a % m, .lst [.int (a / m), .int b, .int 1], ?_, Int.emod_nonneg _ (by omega), Int.emod_lt_of_pos _ h0, a / m, b, 1, rfl, hb0, hb1, .inr rfl⟩
    simp [runD, d_law_take, startR, look, res, sem2, semAt, atI, ixN, semEq, eqD, semMod, semDiv, store, frz, leftR, pre2, runS_setAt, h0, h1]
theorem stream_run (W : Wd) (n : Nat) (cell : Int) : ∃ row, runD W n d_law_stream [.int cell] = some (.fresh row, .non) ∧ IsRow row := by
  have h1 : 0 ≤ cell % 536870909 ∧ cell % 536870909 < 536870909 := ⟨Int.emod_nonneg _ (by decide), Int.emod_lt_of_pos _ (by decide)⟩
  generalize hl : cell % 536870909 = low at h1
  have h2 : 0 ≤ low * low % 536870909 ∧ low * low % 536870909 < 536870909 := ⟨Int.emod_nonneg _ (by decide), Int.emod_lt_of_pos _ (by decide)⟩
  generalize hm : low * low % 536870909 = mid at h2
  have h3 : 0 ≤ (mid * (low + 7) + 13) % 536870909 ∧ (mid * (low + 7) + 13) % 536870909 < 536870909 := ⟨Int.emod_nonneg _ (by decide), Int.emod_lt_of_pos _ (by decide)⟩
  generalize hb : (mid * (low + 7) + 13) % 536870909 = b at h3
  have m1 := mul_eq (i := low) (j := low) (by omega)
  have m2 := mul_eq (i := mid) (j := low + 7) (by omega)
  refine ⟨.lst [.int cell, .int b, .int (if (10 : Int) ^ 18 ≤ cell then 1 else 0)], ?_, cell, b, _, rfl, h3.1, h3.2, ?_⟩
  · simp [runD, d_law_stream, startR, look, res, sem1, semInt, sem2, semGe, semLe, semMod, semAdd, semPow, store, frz, leftR, pre2, hl, hm, hb, m1, m2]
  · split
    · exact .inr rfl
    · exact .inl rfl
structure HasTake (W : Wd) : Prop where
  io : W.io "_law_take" = some (some 0)
  run : ∀ (row : Dat) (m : Int), IsRow row → 0 < m → m < 1073741824 → ∃ v row', W.phi "_law_take" [row, .int m] = some (.val (.int v), row') ∧ 0 ≤ v ∧ v < m ∧ IsRow row'
def Low (c : Nat) : Prop := 97 ≤ c ∧ c ≤ 122
def sgL (cs : List Nat) : Dat := .lst ((cs.map sg).map .str)
theorem letters_comp {W : Wd} (hW : HasTake W) {row : Dat} {many : Nat} {left : List Nat} (hr : IsRow row) (h1 : many ≤ left.length) (h2 : left.length ≤ 26) (hl : ∀ c ∈ left, Low c) :
    ∃ cs row' left', Dl.run W (.comp [3] (.name 3) (.rng1 (.var 1)) .no (.pop 2 (.call "_law_take" (.cons (.var 0) (.cons (.op1 .len (.var 2)) .nil))))) [some ⟨row, .io⟩, some ⟨.int many, .fz⟩, some ⟨sgL left, .own⟩, none] =
      some (.fresh (sgL cs), [some ⟨row', .io⟩, some ⟨.int many, .fz⟩, some ⟨left', .own⟩, none]) ∧ cs.length = many ∧ (∀ c ∈ cs, Low c) ∧ IsRow row' := by
  have hs : sizeLine = 16777216 := sizeLine_eq
  have src : runI W (.rng1 (.var 1)) [some ⟨row, .io⟩, some ⟨.int many, .fz⟩, some ⟨sgL left, .own⟩, none] = some (rangeD 0 many, [some ⟨row, .io⟩, some ⟨.int many, .fz⟩, some ⟨sgL left, .own⟩, none]) := by
    rw [runI_rng1]
    simp [look, res]
    omega
  obtain ⟨xs, r', hc, hlen, hP, row', left', hr', e', _⟩ := compD_inv (f := turnC W [3] (.name 3) .no (.pop 2 (.call "_law_take" (.cons (.var 0) (.cons (.op1 .len (.var 2)) .nil))))) many
    (fun i r => ∃ row left, IsRow row ∧ r = [some ⟨row, .io⟩, some ⟨.int many, .fz⟩, some ⟨sgL left, .own⟩, none] ∧ many ≤ i + left.length ∧ left.length ≤ 26 ∧ ∀ c ∈ left, Low c)
    (fun x => ∃ c, x = .str (sg c) ∧ Low c) (rangeD 0 many) 0 _ (by rw [rangeD_len]; omega) ⟨row, left, hr, rfl, by omega, h2, hl⟩ (by
      rintro i d r hi hd ⟨row, left, hr, rfl, h1, h2, hl⟩
      obtain ⟨v, row', t, v0, v1, hr'⟩ := hW.run row left.length hr (by omega) (by omega)
      have hj : v.toNat < left.length := by omega
      refine ⟨.str (sg left[v.toNat]), [some ⟨row', .io⟩, some ⟨.int many, .fz⟩, some ⟨sgL (left.eraseIdx v.toNat), .own⟩, none], ?_, ⟨_, rfl, hl _ (List.getElem_mem hj)⟩, row', left.eraseIdx v.toNat, hr', rfl, ?_, ?_, fun c hc => hl c (List.mem_of_mem_eraseIdx hc)⟩
      · have hx : ixN left.length v = some v.toNat := ixN_of v0 v1
        simp [turnC, bindT, run_pop, look, isLst, sgL, res, frz, lend, resAll, giveBack, hW.io, sem1, semLen, t, wipeR, hx, List.getElem?_eq_getElem hj, erase_map]
      · rw [List.length_eraseIdx_of_lt hj]
        omega
      · rw [List.length_eraseIdx_of_lt hj]
        omega)
  obtain ⟨ys, rfl, hy⟩ := all_of (P := fun x => ∃ c, x = .str (sg c) ∧ Low c) (f := fun c => Dat.str (sg c)) fun x hx => by
    obtain ⟨c, e, hc⟩ := hP x hx
    exact ⟨c, e, c, e, hc⟩
  refine ⟨ys, row', sgL left', ?_, ?_, fun c hc => ?_, hr'⟩
  · rw [run_comp, src]
    show (compD _ _ (wipeR _ _)).bind _ = _
    have ew : wipeR [some ⟨row, .io⟩, some ⟨.int many, .fz⟩, some ⟨sgL left, .own⟩, none] [3] = [some ⟨row, .io⟩, some ⟨.int many, .fz⟩, some ⟨sgL left, .own⟩, none] := rfl
    rw [ew, hc, e']
    simp [back, look, sgL]
  · rw [List.length_map] at hlen
    rw [hlen, rangeD_len]
  · obtain ⟨c', e, h⟩ := hy c hc
    have : c = c' := by
      have := Dat.str.inj e
      have := congrArg (fun x : Str => x.cps.toList) this
      simpa [sg] using this
    subst this
    exact h
/-- the alphabet -/
def abc : List Nat := (List.range 26).map (97 + ·)
theorem abc_low : ∀ c ∈ abc, Low c := by unfold Low; decide
theorem letters_run {W : Wd} (n : Nat) (hW : HasTake W) {row : Dat} (hr : IsRow row) :
    ∃ (cs : List Nat) (row' : _), runD W n d_law_letters [row] = some (.val (.str ⟨cs.toArray⟩), row') ∧ 1 ≤ cs.length ∧ cs.length ≤ 5 ∧ (∀ c ∈ cs, Low c) ∧ IsRow row' := by
  obtain ⟨a, r1, t1, a0, a1, h1⟩ := hW.run row 5 hr (by decide) (by decide)
  obtain ⟨b, r2, t2, b0, b1, h2⟩ := hW.run r1 2 h1 (by decide) (by decide)
  have el : sem1 .list (.str "abcdefghijklmnopqrstuvwxyz") = some (.fresh (sgL abc)) := rfl
  have fin : ∀ (r3 : Dat) (left : List Nat), IsRow r3 → (1 + a).toNat ≤ left.length → left.length ≤ 26 → (∀ c ∈ left, Low c) → ∃ (cs : List Nat) (row' : _),
      runS W n (.ret (.op2 .join (.str "") (.op1 .sorted (.comp [3] (.name 3) (.rng1 (.var 1)) .no (.pop 2 (.call "_law_take" (.cons (.var 0) (.cons (.op1 .len (.var 2)) .nil)))))))) [some ⟨r3, .io⟩, some ⟨.int (1 + a), .fz⟩, some ⟨sgL left, .own⟩, none] = some (.ret (.val (.str ⟨cs.toArray⟩)) row') ∧ 1 ≤ cs.length ∧ cs.length ≤ 5 ∧ (∀ c ∈ cs, Low c) ∧ ∃ d, leftR d_law_letters row' = some d ∧ IsRow d := by
    intro r3 left h3 q1 q2 q3
    obtain ⟨cs, r4, left', hc, hl, hq, h4⟩ := letters_comp hW h3 q1 q2 q3
    have ea : (((1 + a).toNat : Nat) : Int) = 1 + a := by omega
    rw [ea] at hc
    refine ⟨sortN cs, [some ⟨r4, .io⟩, some ⟨.int (1 + a), .fz⟩, some ⟨left', .own⟩, none], ?_, ?_, ?_, ?_, r4, rfl, h4⟩
    · have e1 : sem1 .sorted (sgL cs) = some (.fresh (sgL (sortN cs))) := semSorted_sg cs (by omega)
      have e2 : sem2 .join (.str "") (sgL (sortN cs)) = some (.val (.str ⟨(sortN cs).toArray⟩)) := semJoin_signs _ (by rw [(sortN_perm cs).length_eq]; omega)
      simp [hc, res, pre2, isStr, e1, e2]
    · rw [(sortN_perm cs).length_eq]; omega
    · rw [(sortN_perm cs).length_eq]; omega
    · intro c h
      exact hq c ((sortN_perm cs).mem_iff.mp h)
  by_cases hb : b = 0
  · subst hb
    obtain ⟨c, r3, t3, c0, c1, h3⟩ := hW.run r2 22 h2 (by decide) (by decide)
    have e1 : semCut (sgL abc) (some c) none = some (.fresh (sgL (abc.drop c.toNat))) := by
      have e : HT.sIx 26 0 (some c) = c.toNat := by
        unfold HT.sIx
        dsimp only
        rw [if_neg (by omega)]
        omega
      show some (Out.fresh (.lst (cutL _ _ _))) = _
      have el : (List.map Dat.str (List.map sg abc)).length = 26 := rfl
      unfold cutL sgL
      rw [el, e, HT.sIx_none, List.take_of_length_le, drop_map, drop_map]
      rw [List.length_drop, el]
      omega
    have e2 : semCut (sgL (abc.drop c.toNat)) none (some (1 + a)) = some (.fresh (sgL ((abc.drop c.toNat).take (1 + a).toNat))) := by
      show some (Out.fresh (.lst (cutL _ _ _))) = _
      have el : (List.map Dat.str (List.map sg (abc.drop c.toNat))).length = 26 - c.toNat := by simp [abc]
      have e : HT.sIx (26 - c.toNat) (26 - c.toNat) (some (1 + a)) = (1 + a).toNat := by
        unfold HT.sIx
        dsimp only
        rw [if_neg (by omega)]
        omega
      unfold cutL sgL
      rw [el, e, HT.sIx_none, List.drop_zero, Nat.sub_zero, List.map_take, List.map_take]
    have ll : ((abc.drop c.toNat).take (1 + a).toNat).length = (1 + a).toNat := by
      simp [abc]
      omega
    obtain ⟨cs, row', hs, q1, q2, q3, d, q4, q5⟩ := fin r3 ((abc.drop c.toNat).take (1 + a).toNat) h3 (by rw [ll]; exact Nat.le_refl _) (by rw [ll]; omega) fun x hx => abc_low x (List.mem_of_mem_drop (List.mem_of_mem_take hx))
    refine ⟨cs, d, ?_, q1, q2, q3, q5⟩
    refine runD_val rfl ?_ q4
    refine (runB_next (r' := [some ⟨r1, .io⟩, some ⟨.int (1 + a), .fz⟩, none, none]) ?_).trans ?_
    · simp [startR, d_law_letters, look, res, lend, resAll, giveBack, hW.io, t1, frz, sem2, semAdd, pre2, store]
    refine (runB_next (r' := [some ⟨r1, .io⟩, some ⟨.int (1 + a), .fz⟩, some ⟨sgL abc, .own⟩, none]) ?_).trans ?_
    · simp [res, el, store]
    refine (runB_next (r' := [some ⟨r3, .io⟩, some ⟨.int (1 + a), .fz⟩, some ⟨sgL ((abc.drop c.toNat).take (1 + a).toNat), .own⟩, none]) ?_).trans ?_
    · simp [look, res, lend, resAll, giveBack, hW.io, t2, t3, frz, sem2, semEq, eqD, e1, e2, store]
    exact runB_ret hs
  · obtain ⟨cs, row', hs, q1, q2, q3, d, q4, q5⟩ := fin r2 abc h2 (by show _ ≤ 26; omega) (by decide) abc_low
    refine ⟨cs, d, ?_, q1, q2, q3, q5⟩
    refine runD_val rfl ?_ q4
    refine (runB_next (r' := [some ⟨r1, .io⟩, some ⟨.int (1 + a), .fz⟩, none, none]) ?_).trans ?_
    · simp [startR, d_law_letters, look, res, lend, resAll, giveBack, hW.io, t1, frz, sem2, semAdd, pre2, store]
    refine (runB_next (r' := [some ⟨r1, .io⟩, some ⟨.int (1 + a), .fz⟩, some ⟨sgL abc, .own⟩, none]) ?_).trans ?_
    · simp [res, el, store]
    refine (runB_next (r' := [some ⟨r2, .io⟩, some ⟨.int (1 + a), .fz⟩, some ⟨sgL abc, .own⟩, none]) ?_).trans ?_
    · simp [look, res, lend, resAll, giveBack, hW.io, t2, frz, sem2, semEq, eqD, hb]
    exact runB_ret hs
end K

namespace K
open PySem PySem.Spec PyProof.Rows L2 Dl

/-- a comprehension whose turns draw -/
theorem comp_draw {f : Dat → Rho → Option (Option Dat × Rho)} (st : Dat → Rho) (P : Dat → Prop) (ds : List Dat) {row : Dat} (hr : IsRow row)
    (h : ∀ d ∈ ds, ∀ row, IsRow row → ∃ x row', f d (st row) = some (some x, st row') ∧ P x ∧ IsRow row') : ∃ xs row', compD f ds (st row) = some (xs, st row') ∧ xs.length = ds.length ∧ (∀ x ∈ xs, P x) ∧ IsRow row' := by
  obtain ⟨xs, r', h1, h2, h3, row', h4, rfl⟩ := compD_inv (f := f) ds.length (fun _ r => ∃ row, IsRow row ∧ r = st row) P ds 0 (st row) (by omega) ⟨row, hr, rfl⟩ (by
    rintro i d r _ hd ⟨row, hr, rfl⟩
    obtain ⟨x, row', q1, q2, q3⟩ := h d hd row hr
    exact ⟨x, st row', q1, q2, row', q3, rfl⟩)
  exact ⟨xs, row', h1, h2, h3, h4⟩
theorem comp_drawF {f : Dat → Rho → Option (Option Dat × Rho)} (st : Dat → Rho) (P : Dat → Prop) (ds : List Dat) {row : Dat} (hr : IsRow row)
    (h : ∀ d ∈ ds, ∀ row, IsRow row → ∃ x row', f d (st row) = some (x, st row') ∧ (∀ y, x = some y → P y) ∧ IsRow row') : ∃ xs row', compD f ds (st row) = some (xs, st row') ∧ xs.length ≤ ds.length ∧ (∀ x ∈ xs, P x) ∧ IsRow row' := by
  obtain ⟨xs, r', h1, h2, h3, row', h4, rfl⟩ := compD_filter (f := f) (fun r => ∃ row, IsRow row ∧ r = st row) P ds (st row) ⟨row, hr, rfl⟩ (by
    rintro d r hd ⟨row, hr, rfl⟩
    obtain ⟨x, row', q1, q2, q3⟩ := h d hd row hr
    exact ⟨x, st row', q1, q2, row', q3, rfl⟩)
  exact ⟨xs, row', h1, h2, h3, h4⟩
def IntIn (m : Int) (x : Dat) : Prop := ∃ v : Int, x = .int v ∧ 0 ≤ v ∧ v < m
def RowIn (L : Nat) (m : Int) (x : Dat) : Prop := ∃ ds, x = .tup ds ∧ ds.length = L ∧ ∀ d ∈ ds, IntIn m d
structure Mach (cs : List Nat) (d : Dat) (rows ends : List Dat) : Prop where
  eq : d = .tup [.str ⟨cs.toArray⟩, .tup rows, .tup ends]
  pos : 0 < rows.length
  rws : ∀ x ∈ rows, RowIn cs.length rows.length x
  nds : ∀ x ∈ ends, IntIn rows.length x
theorem small {n : Nat} (h : n ≤ 1000) : n ≤ sizeLine := small_line h
theorem machine_run {W : Wd} (n : Nat) (hW : HasTake W) {row : Dat} {cs : List Nat} {most : Int} (hr : IsRow row) (h0 : 0 < most) (h1 : most ≤ 900) :
    ∃ m rows ends row', runD W n d_law_machine [row, .str ⟨cs.toArray⟩, .int most] = some (.val m, row') ∧ Mach cs m rows ends ∧ IsRow row' := by
  obtain ⟨a, r1, t1, a0, a1, hr1⟩ := hW.run row most hr h0 (by omega)
  let st : Dat → Rho := fun row => [some ⟨row, .io⟩, some ⟨.str ⟨cs.toArray⟩, .fz⟩, some ⟨.int most, .fz⟩, some ⟨.int (1 + a), .fz⟩, none, none, none, none]
  have inner : ∀ (d row : Dat), IsRow row → ∃ ds row', Dl.run W (.comp [7] (.name 7) (.seq (.var 1)) .no (.call "_law_take" (.cons (.var 0) (.cons (.var 3) .nil)))) ((st row).set 6 (some ⟨d, .fz⟩)) = some (.fresh (.lst ds), (st row').set 6 (some ⟨d, .fz⟩)) ∧ ds.length = cs.length ∧ (∀ x ∈ ds, IntIn (1 + a) x) ∧ IsRow row' := by
    intro d row hr
    obtain ⟨ds, row', q1, q2, q3, q4⟩ := comp_draw (f := turnC W [7] (.name 7) .no (.call "_law_take" (.cons (.var 0) (.cons (.var 3) .nil)))) (fun row => (st row).set 6 (some ⟨d, .fz⟩)) (IntIn (1 + a)) ((cs.map sg).map .str) hr (by
      intro e _ row hr
      obtain ⟨v, row', t, v0, v1, hr'⟩ := hW.run row (1 + a) hr (by omega) (by omega)
      refine ⟨.int v, row', ?_, ⟨v, rfl, v0, v1⟩, hr'⟩
      simp [st, turnC, bindT, look, res, frz, lend, resAll, giveBack, hW.io, t, wipeR])
    refine ⟨ds, row', ?_, by rw [q2, List.length_map, List.length_map], q3, q4⟩
    rw [run_comp]
    simp only [runI_seq, run_var, st, look, List.set, List.getElem?_cons_succ, List.getElem?_cons_zero, Option.bind_some, frz, items, wipeR, signs_eq] at q1 ⊢
    simp [st, look, frz, items, signs_eq, wipeR, back] at q1 ⊢
    rw [q1]
    simp [back, look]
  obtain ⟨rows, r2, q1, q2, q3, hr2⟩ := comp_draw (f := turnC W [6] (.name 6) .no (.op1 .tuple (.comp [7] (.name 7) (.seq (.var 1)) .no (.call "_law_take" (.cons (.var 0) (.cons (.var 3) .nil)))))) st (RowIn cs.length (1 + a)) (rangeD 0 (1 + a).toNat) hr1 (by
      intro e _ row hr
      obtain ⟨ds, row', q1, q2, q3, hr'⟩ := inner e row hr
      refine ⟨.tup ds, row', ?_, ⟨ds, rfl, q2, q3⟩, hr'⟩
      simp [st, turnC, bindT, look, res, frz, wipeR, sem1, semTuple] at q1 ⊢
      rw [q1]
      simp [res, frz, sem1, semTuple])
  have ea : (((1 + a).toNat : Nat) : Int) = 1 + a := by omega
  have hl : rows.length = (1 + a).toNat := by rw [q2, rangeD_len]
  let st2 : Dat → Rho := fun row => (st row).set 4 (some ⟨.lst rows, .own⟩)
  obtain ⟨ends, r3, p1, p2, p3, hr3⟩ := comp_drawF (f := turnC W [6] (.name 6) (.yes (.cmp .eq (.call "_law_take" (.cons (.var 0) (.cons (.int 2) .nil))) (.int 1))) (.var 6)) st2 (IntIn (1 + a)) (rangeD 0 (1 + a).toNat) hr2 (by
      intro e he row hr
      obtain ⟨k, hk, rfl⟩ := rangeD_mem he
      obtain ⟨v, row', t, v0, v1, hr'⟩ := hW.run row 2 hr (by decide) (by decide)
      refine ⟨if v = 1 then some (.int (0 + (k : Int))) else none, row', ?_, ?_, hr'⟩
      · by_cases hv : v = 1
        · simp [st2, st, turnC, bindT, look, res, frz, lend, resAll, giveBack, hW.io, t, wipeR, sem2, semEq, eqD, hv]
        · simp [st2, st, turnC, bindT, look, res, frz, lend, resAll, giveBack, hW.io, t, wipeR, sem2, semEq, eqD, hv]
      · intro y hy
        split at hy
        · cases hy
          exact ⟨_, rfl, by omega, by omega⟩
        · cases hy)
  have src : ∀ (r : Rho), look r 3 = some ⟨.int (1 + a), .fz⟩ → runI W (.rng1 (.var 3)) r = some (rangeD 0 (1 + a).toNat, r) := by
    intro r h
    have := small_line (n := (1 + a).toNat) (by omega)
    simp [runI_rng1, h, res]
    omega
  refine ⟨.tup [.str ⟨cs.toArray⟩, .tup rows, .tup ends], rows, ends, r3, ?_, ⟨rfl, by omega, by rw [hl, ea]; exact q3, by rw [hl, ea]; exact p3⟩, hr3⟩
  refine runD_val (r := (((st2 r3).set 5 (some ⟨.lst ends, .own⟩)))) rfl ?_ rfl
  refine (runB_next (r' := st r1) ?_).trans ?_
  · simp [st, startR, d_law_machine, look, res, lend, resAll, giveBack, hW.io, t1, frz, sem2, semAdd, pre2, store]
  refine (runB_next (r' := st2 r2) ?_).trans ?_
  · rw [runS_set, run_comp, src _ rfl]
    show (Option.bind ((compD _ _ (st r1)).bind _) _) = _
    rw [q1]
    simp [st2, st, back, look, store]
  refine (runB_next (r' := (st2 r3).set 5 (some ⟨.lst ends, .own⟩)) ?_).trans ?_
  · rw [runS_set, run_comp, src _ rfl]
    show (Option.bind ((compD _ _ (st2 r2)).bind _) _) = _
    rw [p1]
    simp [st2, st, back, look, store]
  simp [st2, st, look, res, frz, sem1, semTuple]
theorem word_run {W : Wd} (n : Nat) (hW : HasTake W) {row : Dat} {cs : List Nat} {most : Int} (hr : IsRow row) (hc : 0 < cs.length) (hc2 : cs.length ≤ 900) (h0 : 0 ≤ most) (h1 : most ≤ 900) :
    ∃ (w : List Nat) (row' : _), runD W n d_law_word [row, .str ⟨cs.toArray⟩, .int most] = some (.val (.str ⟨w.toArray⟩), row') ∧ (∀ c ∈ w, c ∈ cs) ∧ IsRow row' := by
  obtain ⟨a, r1, t1, a0, a1, hr1⟩ := hW.run row (most + 1) hr (by omega) (by omega)
  let st : Dat → Rho := fun row => [some ⟨row, .io⟩, some ⟨.str ⟨cs.toArray⟩, .fz⟩, some ⟨.int most, .fz⟩, none]
  obtain ⟨xs, r2, q1, q2, q3, hr2⟩ := comp_draw (f := turnC W [3] (.name 3) .no (.op2 .at (.var 1) (.call "_law_take" (.cons (.var 0) (.cons (.op1 .len (.var 1)) .nil))))) st (fun x => ∃ c, x = .str (sg c) ∧ c ∈ cs) (rangeD 0 a.toNat) hr1 (by
      intro e he row hr
      obtain ⟨v, row', t, v0, v1, hr'⟩ := hW.run row cs.length hr (by omega) (by omega)
      obtain ⟨c, hc, e⟩ := semAt_str v0 v1
      refine ⟨.str (sg c), row', ?_, ⟨c, rfl, hc⟩, hr'⟩
      have el : (⟨cs.toArray⟩ : Str).length = cs.length := rfl
      simp [st, turnC, bindT, look, res, frz, lend, resAll, giveBack, hW.io, sem1, semLen, el, t, wipeR, sem2, e, pre2])
  obtain ⟨w, rfl, hw⟩ := all_of (P := fun x => ∃ c, x = .str (sg c) ∧ c ∈ cs) (f := fun c => Dat.str (sg c)) fun x hx => by
    obtain ⟨c, e, hc⟩ := q3 x hx
    exact ⟨c, e, c, e, hc⟩
  have hlen : w.length = a.toNat := by rw [List.length_map, rangeD_len] at q2; exact q2
  refine ⟨w, r2, ?_, fun c hc => ?_, hr2⟩
  · refine runD_val (r := st r2) rfl ?_ rfl
    refine runB_ret ?_
    have src : runI W (.rng1 (.call "_law_take" (.cons (.var 0) (.cons (.op2 .add (.var 2) (.int 1)) .nil)))) (st row) = some (rangeD 0 a.toNat, st r1) := by
      have := small_line (n := a.toNat) (by omega)
      simp [runI_rng1, st, look, res, frz, lend, resAll, giveBack, hW.io, sem2, semAdd, pre2, t1]
      omega
    have e2 : semJoin (.str "") (.lst (w.map fun c => Dat.str (sg c))) = some (.val (.str ⟨w.toArray⟩)) := by
      have := semJoin_signs w (by omega)
      rw [List.map_map] at this
      exact this
    have e3 : Dl.run W (.comp [3] (.name 3) (.rng1 (.call "_law_take" (.cons (.var 0) (.cons (.op2 .add (.var 2) (.int 1)) .nil)))) .no (.op2 .at (.var 1) (.call "_law_take" (.cons (.var 0) (.cons (.op1 .len (.var 1)) .nil))))) (startR d_law_word [row, .str ⟨cs.toArray⟩, .int most]) = some (.fresh (.lst (w.map fun c => Dat.str (sg c))), st r2) := by
      rw [run_comp]
      show Option.bind (runI W _ (st row)) _ = _
      rw [src]
      show Option.bind (compD _ _ (st r1)) _ = _
      rw [q1]
      simp [st, back, look]
    rw [runS_ret, run_op2, run_str]
    simp [res, pre2, isStr, e3, sem2, e2]
  · obtain ⟨c', e, h⟩ := hw c hc
    have : c = c' := by
      have := Dat.str.inj e
      have := congrArg (fun x : Str => x.cps.toList) this
      simpa [sg] using this
    subst this
    exact h
theorem truth_run (W : Wd) (n : Nat) (x y : Bool) : runD W n d_law_truth [.bl x, .bl y] = some (.val (.bl (x == y)), .non) := by
  cases x <;> cases y <;> rfl
end K

namespace K
open PySem PySem.Spec PyProof.Rows L2 Dl

/-- one letter's step -/
def stp (cs : List Nat) (rows : List Dat) (s : Int) (d : Dat) : Int :=
  match semAt (.tup rows) (.int s), semIndex (.str ⟨cs.toArray⟩) d with
  | some (.val t), some (.val i) => (match semAt t i with | some (.val (.int v)) => v | _ => 0)
  | _, _ => 0
structure IsStp (cs : List Nat) (rows : List Dat) (s : Int) (d : Dat) (t : Dat) (i : Int) : Prop where
  at1 : semAt (.tup rows) (.int s) = some (.val t)
  ix : semIndex (.str ⟨cs.toArray⟩) d = some (.val (.int i))
  at2 : semAt t (.int i) = some (.val (.int (stp cs rows s d)))
  lo : 0 ≤ stp cs rows s d
  hi : stp cs rows s d < rows.length
theorem stp_ok {cs : List Nat} {m : Dat} {rows ends : List Dat} (hm : Mach cs m rows ends) {s : Int} (s0 : 0 ≤ s) (s1 : s < rows.length) {c : Nat} (hc : c ∈ cs) : ∃ t i, IsStp cs rows s (.str (sg c)) t i := by
  obtain ⟨hi, e1⟩ := atI_of s0 s1
  obtain ⟨ds, e2, hl, hd⟩ := hm.rws _ (List.getElem_mem hi)
  obtain ⟨k, e3, hk⟩ := index_one (x := ⟨cs.toArray⟩) hc
  have hk' : ((k : Nat) : Int) < ds.length := by
    have : (⟨cs.toArray⟩ : Str).length = cs.length := rfl
    omega
  obtain ⟨hj, e4⟩ := atI_of (xs := ds) (i := (k : Nat)) (by omega) hk'
  obtain ⟨v, e5, v0, v1⟩ := hd _ (List.getElem_mem hj)
  have a1 : semAt (.tup rows) (.int s) = some (.val (.tup ds)) := by
    show (atI rows s).map _ = _
    rw [e1, e2]
    rfl
  have a2 : semIndex (.str ⟨cs.toArray⟩) (.str (sg c)) = some (.val (.int (k : Nat))) := by
    show (Txt.index0 _ (sg c)).map _ = _
    rw [show Txt.index0 _ (sg c) = some k from e3]
    rfl
  have a3 : semAt (.tup ds) (.int (k : Nat)) = some (.val (.int v)) := by
    show (atI ds _).map _ = _
    rw [e4, e5]
    rfl
  have a4 : stp cs rows s (.str (sg c)) = v := by
    unfold stp
    rw [a1, a2]
    dsimp only
    rw [a3]
  exact ⟨.tup ds, k, a1, a2, by rw [a4]; exact a3, by rw [a4]; exact v0, by rw [a4]; exact v1⟩
/-- the word's signs -/
def sgs (w : List Nat) : List Dat := (w.map sg).map .str
theorem sgs_mem {w : List Nat} {d : Dat} (h : d ∈ sgs w) : ∃ c, c ∈ w ∧ d = .str (sg c) := by
  unfold sgs at h
  rw [List.map_map] at h
  obtain ⟨c, hc, rfl⟩ := List.mem_map.mp h
  exact ⟨c, hc, rfl⟩
def final (cs : List Nat) (rows : List Dat) (w : List Nat) : Int := (sgs w).foldl (stp cs rows) 0
theorem behind_run (W : Wd) (n : Nat) {cs : List Nat} {m : Dat} {rows ends : List Dat} (hm : Mach cs m rows ends) {w : List Nat} (hw : ∀ c ∈ w, c ∈ cs) :
    runD W n d_state_behind [m, .str ⟨w.toArray⟩] = some (.val (.int (final cs rows w)), .non) := by
  let st : Int → Rho := fun s => [none, none, some ⟨.int s, .fz⟩, none, some ⟨.str ⟨cs.toArray⟩, .fz⟩, some ⟨.tup rows, .fz⟩, none]
  have loop := forD_fold (f := stepF W n (.name 3) (.cons (.set 2 (.op2 .at (.op2 .at (.var 5) (.var 2)) (.op2 .index (.var 4) (.var 3)))) .nil)) (wp := [0, 1, 3, 6]) st (stp cs rows) (fun s => 0 ≤ s ∧ s < rows.length) (sgs w) 0 ⟨by omega, by have := hm.pos; omega⟩ (by
    rintro s d hd ⟨s0, s1⟩
    obtain ⟨c, hc, rfl⟩ := sgs_mem hd
    obtain ⟨t, i, h⟩ := stp_ok hm s0 s1 (hw c hc)
    refine ⟨⟨h.lo, h.hi⟩, (st (stp cs rows s (.str (sg c)))).set 3 (some ⟨.str (sg c), .fz⟩), ?_, ?_⟩
    · simp [st, stepF, bindT, look, res, frz, sem2, pre2, isStr, h.at1, h.ix, h.at2, store]
    · simp [st, wipeR])
  have hq := hm.eq
  subst hq
  refine runD_at (j := 2) (r := st (final cs rows w)) rfl ?_ rfl rfl
  refine (runB_next (r' := [some ⟨.tup [.str ⟨cs.toArray⟩, .tup rows, .tup ends], .fz⟩, some ⟨.str ⟨w.toArray⟩, .fz⟩, none, none, some ⟨.str ⟨cs.toArray⟩, .fz⟩, some ⟨.tup rows, .fz⟩, some ⟨.tup ends, .fz⟩]) ?_).trans ?_
  · simp [startR, d_state_behind, look, res, frz, Dl.putAll]
  refine (runB_next (r' := [some ⟨.tup [.str ⟨cs.toArray⟩, .tup rows, .tup ends], .fz⟩, some ⟨.str ⟨w.toArray⟩, .fz⟩, some ⟨.int 0, .fz⟩, none, some ⟨.str ⟨cs.toArray⟩, .fz⟩, some ⟨.tup rows, .fz⟩, some ⟨.tup ends, .fz⟩]) ?_).trans ?_
  · simp [look, res, store]
  refine (runB_next (r' := st (final cs rows w)) ?_).trans ?_
  · rw [runS_for, runI_seq]
    exact loop.1
  · simp [st, look, res]
def isEnd (ends : List Dat) (s : Int) : Bool := ends.any fun z => feq z (.int s)
theorem in_ends {ends : List Dat} {m : Int} (h : ∀ x ∈ ends, IntIn m x) (s : Int) : semIn (.int s) (.tup ends) = some (.val (.bl (isEnd ends s))) := by
  have : ends.all flatD = true := by
    rw [List.all_eq_true]
    intro x hx
    obtain ⟨v, rfl, _⟩ := h x hx
    rfl
  unfold semIn inD
  dsimp only
  rw [if_pos ⟨rfl, this⟩]
  rfl
theorem has_run (W : Wd) (n : Nat) {cs : List Nat} {m : Dat} {rows ends : List Dat} (hm : Mach cs m rows ends) {w : List Nat} (hio : W.io "state_behind" = some none) (hb : W.phi "state_behind" [m, .str ⟨w.toArray⟩] = some (.val (.int (final cs rows w)), .non)) :
    runD W n d_has [m, .str ⟨w.toArray⟩] = some (.val (.bl (isEnd ends (final cs rows w))), .non) := by
  refine runD_val (r := [some ⟨m, .fz⟩, some ⟨.str ⟨w.toArray⟩, .fz⟩]) rfl ?_ rfl
  have a1 : semAt m (.int 2) = some (.val (.tup ends)) := by rw [hm.eq]; rfl
  refine runB_ret ?_
  simp [startR, d_has, look, res, frz, resAll, giveBack, hio, hb, sem2, pre2, a1, in_ends hm.nds]
def IsWord (cs : List Nat) (x : Dat) : Prop := ∃ w : List Nat, x = .str ⟨w.toArray⟩ ∧ ∀ c ∈ w, c ∈ cs
structure HasHas (W : Wd) : Prop where
  io : W.io "has" = some none
  run : ∀ {cs : List Nat} {m : Dat} {rows ends : List Dat}, Mach cs m rows ends → ∀ {w : List Nat}, (∀ c ∈ w, c ∈ cs) → W.phi "has" [m, .str ⟨w.toArray⟩] = some (.val (.bl (isEnd ends (final cs rows w))), .non)
structure HasTruth (W : Wd) : Prop where
  io : W.io "_law_truth" = some none
  run : ∀ x y : Bool, W.phi "_law_truth" [.bl x, .bl y] = some (.val (.bl (x == y)), .non)
theorem right_run (W : Wd) (n : Nat) (hH : HasHas W) (hT : HasTruth W) {cs : List Nat} {m : Dat} {rows ends : List Dat} (hm : Mach cs m rows ends) {ws : List Dat} (hw : ∀ x ∈ ws, IsWord cs x) (hl : ws.length ≤ 400) :
    runD W n d_law_right [m, .lst ws] = some (.val (.bl true), .non) := by
  have b1 : semAt m (.int 1) = some (.val (.tup rows)) := by rw [hm.eq]; rfl
  have b0 : semAt m (.int 0) = some (.val (.str ⟨cs.toArray⟩)) := by rw [hm.eq]; rfl
  have b2 : semAt m (.int 2) = some (.val (.tup ends)) := by rw [hm.eq]; rfl
  obtain ⟨r', lp, rfl⟩ := forD_inv (f := stepF W n (.name 2) (.cons (.set 3 (.int 0))
    (.cons (.for_ (.name 4) (.seq (.var 2)) (.cons (.set 3 (.op2 .at (.op2 .at (.op2 .at (.var 0) (.int 1)) (.var 3)) (.op2 .index (.op2 .at (.var 0) (.int 0)) (.var 4))))
    .nil) [1, 4])
    (.cons (.ife (.not (.val (.call "_law_truth" (.cons (.call "has" (.cons (.var 0) (.cons (.var 2) .nil))) (.cons (.op2 .isIn (.var 3) (.op2 .at (.var 0) (.int 2))) .nil))))) (.cons (.ret (.bl false))
    .nil) .nil)
    .nil)))) (wp := [1, 2, 3, 4]) (fun _ r => r = [some ⟨m, .fz⟩, none, none, none, none]) (ws ++ ws.reverse) [] _ rfl (by
    rintro pre d post r _ hd rfl
    obtain ⟨w, rfl, hwc⟩ := hw d (by simpa using hd)
    let st : Int → Rho := fun s => [some ⟨m, .fz⟩, none, some ⟨.str ⟨w.toArray⟩, .fz⟩, some ⟨.int s, .fz⟩, none]
    have loop := forD_fold (f := stepF W n (.name 4) (.cons (.set 3 (.op2 .at (.op2 .at (.op2 .at (.var 0) (.int 1)) (.var 3)) (.op2 .index (.op2 .at (.var 0) (.int 0)) (.var 4)))) .nil)) (wp := [1, 4]) st (stp cs rows) (fun s => 0 ≤ s ∧ s < rows.length) (sgs w) 0 ⟨by omega, by have := hm.pos; omega⟩ (by
      rintro s d hd ⟨s0, s1⟩
      obtain ⟨c, hc, rfl⟩ := sgs_mem hd
      obtain ⟨t, i, h⟩ := stp_ok hm s0 s1 (hwc c hc)
      refine ⟨⟨h.lo, h.hi⟩, (st (stp cs rows s (.str (sg c)))).set 4 (some ⟨.str (sg c), .fz⟩), ?_, ?_⟩
      · simp [st, stepF, bindT, look, res, frz, sem2, pre2, isStr, b0, b1, h.at1, h.ix, h.at2, store]
      · simp [st, wipeR])
    refine ⟨st (final cs rows w), ?_, by simp [st, wipeR]⟩
    show runB W n _ [some ⟨m, .fz⟩, none, some ⟨.str ⟨w.toArray⟩, .fz⟩, none, none] = _
    refine (runB_next (r' := st 0) ?_).trans ?_
    · simp [st, look, res, store]
    refine (runB_next (r' := st (final cs rows w)) ?_).trans ?_
    · rw [runS_for, runI_seq]
      exact loop.1
    · simp [st, look, res, frz, resAll, giveBack, hH.io, hT.io, hH.run hm hwc, hT.run, sem2, pre2, b2, in_ends hm.nds, truthD])
  refine runD_val (r := [some ⟨m, .fz⟩, none, none, none, none]) rfl ?_ rfl
  refine (runB_next (r' := [some ⟨m, .fz⟩, none, none, none, none]) ?_).trans ?_
  · have src : runI W (.seq (.op2 .add (.var 1) (.rev (.var 1)))) (startR d_law_right [m, .lst ws]) = some (ws ++ ws.reverse, [some ⟨m, .fz⟩, some ⟨.lst ws, .fz⟩, none, none, none]) := by
      have := small_line (n := ws.length + ws.reverse.length) (by rw [List.length_reverse]; omega)
      have e : semAdd (.lst ws) (.lst ws.reverse) = some (.fresh (.lst (ws ++ ws.reverse))) := if_pos this
      simp [startR, d_law_right, look, res, frz, sem2, pre2, semRev, e, items]
    rw [runS_for, src]
    exact lp
  · simp
theorem reps_mem {x : Str} {n c : Nat} (h : c ∈ (repS x n).cps.toList) : c ∈ x.cps.toList := by
  have h : c ∈ (List.replicate n x.cps.toList).flatten := h
  obtain ⟨l, hl, hc⟩ := List.mem_flatten.mp h
  rw [List.eq_of_mem_replicate hl] at hc
  exact hc
structure HasAll (W : Wd) : Prop where
  tk : HasTake W
  hs : HasHas W
  io1 : W.io "_law_stream" = some none
  run1 : ∀ cell : Int, ∃ row, W.phi "_law_stream" [.int cell] = some (.fresh row, .non) ∧ IsRow row
  io2 : W.io "_law_letters" = some (some 0)
  run2 : ∀ row, IsRow row → ∃ (cs : List Nat) (row' : _), W.phi "_law_letters" [row] = some (.val (.str ⟨cs.toArray⟩), row') ∧ 1 ≤ cs.length ∧ cs.length ≤ 5 ∧ (∀ c ∈ cs, Low c) ∧ IsRow row'
  io3 : W.io "_law_machine" = some (some 0)
  run3 : ∀ (row : Dat) (cs : List Nat) (most : Int), IsRow row → 0 < most → most ≤ 900 → ∃ m rows ends row', W.phi "_law_machine" [row, .str ⟨cs.toArray⟩, .int most] = some (.val m, row') ∧ Mach cs m rows ends ∧ IsRow row'
  io4 : W.io "_law_word" = some (some 0)
  run4 : ∀ (row : Dat) (cs : List Nat) (most : Int), IsRow row → 0 < cs.length → cs.length ≤ 900 → 0 ≤ most → most ≤ 900 → ∃ (w : List Nat) (row' : _), W.phi "_law_word" [row, .str ⟨cs.toArray⟩, .int most] = some (.val (.str ⟨w.toArray⟩), row') ∧ (∀ c ∈ w, c ∈ cs) ∧ IsRow row'
  io5 : W.io "_law_right" = some none
  run5 : ∀ {cs : List Nat} {m : Dat} {rows ends : List Dat}, Mach cs m rows ends → ∀ {ws : List Dat}, (∀ x ∈ ws, IsWord cs x) → ws.length ≤ 400 → W.phi "_law_right" [m, .lst ws] = some (.val (.bl true), .non)
theorem law_run (W : Wd) (n : Nat) (hW : HasAll W) {ns : List Int} (hl : ns.length ≤ 63) : runD W n d_law [.lst (ns.map .int)] = some (.val (.bl true), .non) := by
  obtain ⟨r', lp, rfl⟩ := forD_inv (f := stepF W n (.name 1) (.cons (.set 2 (.call "_law_stream" (.cons (.var 1) .nil)))
    (.cons (.set 3 (.call "_law_letters" (.cons (.var 2) .nil)))
    (.cons (.set 4 (.call "_law_machine" (.cons (.var 2) (.cons (.var 3) (.cons (.op2 .at (.lst (.cons (.int 12) (.cons (.int 12) (.cons (.int 12) (.cons (.int 60) .nil))))) (.call "_law_take" (.cons (.var 2) (.cons (.int 4) .nil)))) .nil)))))
    (.cons (.set 5 (.lst (.cons (.str "") (.cons (.op2 .at (.var 3) (.int 0)) (.cons (.var 3) (.cons (.op2 .mul (.cut (.var 3) (.yes (.op1 .neg (.int 1))) .no) (.int 40)) (.cons (.call "_law_word" (.cons (.var 2) (.cons (.var 3) (.cons (.int 40) .nil)))) .nil)))))))
    (.cons (.set 5 (.op2 .add (.var 5) (.comp [6] (.name 6) (.rng1 (.int 4)) .no (.call "_law_word" (.cons (.var 2) (.cons (.var 3) (.cons (.int 6) .nil)))))))
    (.cons (.ife (.not (.val (.call "_law_right" (.cons (.var 4) (.cons (.var 5) .nil))))) (.cons (.ret (.bl false))
    .nil) .nil)
    .nil))))))) (wp := [0, 1, 2, 3, 4, 5, 6]) (fun _ r => r = [none, none, none, none, none, none, none]) ((0 :: ns).map .int) [] _ rfl (by
    rintro pre d post r _ hd rfl
    obtain ⟨cell, _, rfl⟩ := List.mem_map.mp hd
    obtain ⟨r1, t1, h1⟩ := hW.run1 cell
    obtain ⟨cs, r2, t2, c1, c5, _, h2⟩ := hW.run2 r1 h1
    obtain ⟨v, r3, t3, v0, v1, h3⟩ := hW.tk.run r2 4 h2 (by decide) (by decide)
    obtain ⟨most, e3, m0, m1⟩ : ∃ most : Int, semAt (.lst [.int 12, .int 12, .int 12, .int 60]) (.int v) = some (.val (.int most)) ∧ 0 < most ∧ most ≤ 900 := by
      rcases (by omega : v = 0 ∨ v = 1 ∨ v = 2 ∨ v = 3) with rfl | rfl | rfl | rfl
      · exact ⟨12, rfl, by decide, by decide⟩
      · exact ⟨12, rfl, by decide, by decide⟩
      · exact ⟨12, rfl, by decide, by decide⟩
      · exact ⟨60, rfl, by decide, by decide⟩
    obtain ⟨m, rows, ends, r4, t4, hm, h4⟩ := hW.run3 r3 cs most h3 m0 m1
    obtain ⟨w1, r5, t5, hw1, h5⟩ := hW.run4 r4 cs 40 h4 (by omega) (by omega) (by decide) (by decide)
    obtain ⟨c, hc, e6⟩ := semAt_str (cs := cs) (i := 0) (by decide) (by omega)
    have e7 : ∃ w7 : List Nat, semMul (.str (cutS ⟨cs.toArray⟩ (some (-1)) none)) (.int 40) = some (.val (.str ⟨w7.toArray⟩)) ∧ ∀ c ∈ w7, c ∈ cs := by
      have hlen : (cutS ⟨cs.toArray⟩ (some (-1)) none).length ≤ cs.length := cutS_length _ _ _
      have := small_line (n := (cutS ⟨cs.toArray⟩ (some (-1)) none).length * 40) (by omega)
      refine ⟨(repS (cutS ⟨cs.toArray⟩ (some (-1)) none) 40).cps.toList, if_pos ⟨by decide, by decide, this⟩, fun c hc => ?_⟩
      have := reps_mem hc
      exact List.mem_of_mem_drop (List.mem_of_mem_take this)
    obtain ⟨w7, e7, hw7⟩ := e7
    let st : Dat → Rho := fun row => [none, some ⟨.int cell, .fz⟩, some ⟨row, .own⟩, some ⟨.str ⟨cs.toArray⟩, .fz⟩, some ⟨m, .fz⟩, some ⟨.lst [.str "", .str (sg c), .str ⟨cs.toArray⟩, .str ⟨w7.toArray⟩, .str ⟨w1.toArray⟩], .own⟩, none]
    obtain ⟨ws, r6, q1, q2, q3, h6⟩ := comp_draw (f := turnC W [6] (.name 6) .no (.call "_law_word" (.cons (.var 2) (.cons (.var 3) (.cons (.int 6) .nil))))) st (IsWord cs) (rangeD 0 4) h5 (by
      intro e he row hr
      obtain ⟨w, row', t, hw, hr'⟩ := hW.run4 row cs 6 hr (by omega) (by omega) (by decide) (by decide)
      refine ⟨.str ⟨w.toArray⟩, row', ?_, ⟨w, rfl, hw⟩, hr'⟩
      simp [st, turnC, bindT, look, res, frz, lend, resAll, giveBack, hW.io4, t, wipeR])
    have hws : ∀ x ∈ ([.str "", .str (sg c), .str ⟨cs.toArray⟩, .str ⟨w7.toArray⟩, .str ⟨w1.toArray⟩] : List Dat) ++ ws, IsWord cs x := by
      intro x hx
      rcases List.mem_append.mp hx with hx | hx
      · simp only [List.mem_cons, List.not_mem_nil, or_false] at hx
        rcases hx with rfl | rfl | rfl | rfl | rfl
        · exact ⟨[], rfl, fun _ z => (nomatch z)⟩
        · exact ⟨[c], rfl, fun x hx => by rw [List.mem_singleton.mp hx]; exact hc⟩
        · exact ⟨cs, rfl, fun _ h => h⟩
        · exact ⟨w7, rfl, hw7⟩
        · exact ⟨w1, rfl, hw1⟩
      · exact q3 x hx
    have hwl : (([.str "", .str (sg c), .str ⟨cs.toArray⟩, .str ⟨w7.toArray⟩, .str ⟨w1.toArray⟩] : List Dat) ++ ws).length ≤ 400 := by
      rw [List.length_append, q2, rangeD_len]
      show 5 + 4 ≤ 400
      decide
    have e8 : semAdd (.lst [.str "", .str (sg c), .str ⟨cs.toArray⟩, .str ⟨w7.toArray⟩, .str ⟨w1.toArray⟩]) (.lst ws) = some (.fresh (.lst ([.str "", .str (sg c), .str ⟨cs.toArray⟩, .str ⟨w7.toArray⟩, .str ⟨w1.toArray⟩] ++ ws))) := if_pos (small_line (by rw [List.length_append] at hwl; omega))
    have t9 := hW.run5 hm hws hwl
    refine ⟨(st r6).set 5 (some ⟨.lst ([.str "", .str (sg c), .str ⟨cs.toArray⟩, .str ⟨w7.toArray⟩, .str ⟨w1.toArray⟩] ++ ws), .fz⟩), ?_, rfl⟩
    show runB W n _ [none, some ⟨.int cell, .fz⟩, none, none, none, none, none] = _
    refine (runB_next (r' := [none, some ⟨.int cell, .fz⟩, some ⟨r1, .own⟩, none, none, none, none]) ?_).trans ?_
    · simp [look, res, frz, resAll, giveBack, hW.io1, t1, store]
    refine (runB_next (r' := [none, some ⟨.int cell, .fz⟩, some ⟨r2, .own⟩, some ⟨.str ⟨cs.toArray⟩, .fz⟩, none, none, none]) ?_).trans ?_
    · simp [look, res, frz, lend, resAll, giveBack, hW.io2, t2, store]
    refine (runB_next (r' := [none, some ⟨.int cell, .fz⟩, some ⟨r4, .own⟩, some ⟨.str ⟨cs.toArray⟩, .fz⟩, some ⟨m, .fz⟩, none, none]) ?_).trans ?_
    · simp [look, res, frz, lend, resAll, giveBack, hW.io3, hW.tk.io, t3, sem2, pre2, e3, t4, store]
    refine (runB_next (r' := st r5) ?_).trans ?_
    · simp [st, look, res, frz, lend, resAll, giveBack, hW.io4, t5, sem1, semNeg, sem2, pre2, e6, semCut, e7, store]
    refine (runB_next (r' := (st r6).set 5 (some ⟨.lst ([.str "", .str (sg c), .str ⟨cs.toArray⟩, .str ⟨w7.toArray⟩, .str ⟨w1.toArray⟩] ++ ws), .own⟩)) ?_).trans ?_
    · have src : runI W (.rng1 (.int 4)) (st r5) = some (rangeD 0 4, st r5) := by
        have := small_line (n := 4) (by decide)
        simp [runI_rng1, res]
        omega
      have e9 : Dl.run W (.comp [6] (.name 6) (.rng1 (.int 4)) .no (.call "_law_word" (.cons (.var 2) (.cons (.var 3) (.cons (.int 6) .nil))))) (st r5) = some (.fresh (.lst ws), st r6) := by
        rw [run_comp, src]
        show Option.bind (compD _ _ (st r5)) _ = _
        rw [q1]
        simp [st, back, look]
      rw [runS_set, run_op2, run_var]
      show Option.bind (Option.bind _ _) _ = _
      simp only [look, st, res, pre2, e9, Option.bind_some]
      simp [look, st, res, pre2, sem2, e8, store] at e9 ⊢
      rw [e9]
      simp [look, e8, store]
    · simp [st, look, res, frz, resAll, giveBack, hW.io5, truthD] at t9 ⊢
      rw [t9]
      simp [truthD])
  have src : runI W (.seq (.op2 .add (.lst (.cons (.int 0) .nil)) (.cut (.var 0) .no (.yes (.int 63))))) (startR d_law [.lst (ns.map .int)]) = some ((0 :: ns).map .int, startR d_law [.lst (ns.map .int)]) := by
    have e1 : semCut (.lst (ns.map .int)) none (some 63) = some (.fresh (.lst (ns.map .int))) := by
      show some (Out.fresh (.lst (cutL _ _ _))) = _
      have e : HT.sIx (ns.map Dat.int).length (ns.map Dat.int).length (some 63) = (ns.map Dat.int).length := by
        unfold HT.sIx
        dsimp only
        rw [if_neg (by decide), List.length_map]
        omega
      unfold cutL
      rw [e, HT.sIx_none, List.drop_zero, Nat.sub_zero, List.take_length]
    have e2 : semAdd (.lst [.int 0]) (.lst (ns.map .int)) = some (.fresh (.lst ((0 :: ns).map .int))) := if_pos (small_line (by rw [List.length_map]; show 1 + _ ≤ _; omega))
    simp [startR, d_law, look, res, frz, sem2, pre2, e1, items]
    simp [e2]
  have f1 := hW.hs.run (cs := [97]) (rows := [.tup [.int 0]]) (ends := [.int 0]) ⟨rfl, by decide, fun x hx => by rw [List.mem_singleton.mp hx]; exact ⟨_, rfl, rfl, fun d hd => by rw [List.mem_singleton.mp hd]; exact ⟨_, rfl, by decide, by decide⟩⟩, fun d hd => by rw [List.mem_singleton.mp hd]; exact ⟨_, rfl, by decide, by decide⟩⟩ (w := []) (fun _ z => (nomatch z))
  have f2 := hW.hs.run (cs := [97]) (rows := [.tup [.int 1], .tup [.int 0]]) (ends := [.int 1]) ⟨rfl, by decide, fun x hx => by
    simp only [List.mem_cons, List.not_mem_nil, or_false] at hx
    rcases hx with rfl | rfl
    · exact ⟨_, rfl, rfl, fun d hd => by rw [List.mem_singleton.mp hd]; exact ⟨_, rfl, by decide, by decide⟩⟩
    · exact ⟨_, rfl, rfl, fun d hd => by rw [List.mem_singleton.mp hd]; exact ⟨_, rfl, by decide, by decide⟩⟩, fun d hd => by rw [List.mem_singleton.mp hd]; exact ⟨_, rfl, by decide, by decide⟩⟩ (w := [97, 97]) (fun x hx => by simpa using hx)
  have g1 : isEnd [.int 0] (final [97] [.tup [.int 0]] []) = true := by decide +kernel
  have g2 : isEnd [.int 1] (final [97] [.tup [.int 1], .tup [.int 0]] [97, 97]) = false := by decide +kernel
  rw [g1] at f1
  rw [g2] at f2
  have s1 : (.str ⟨[97].toArray⟩ : Dat) = .str "a" := rfl
  have s2 : (.str ⟨[].toArray⟩ : Dat) = .str "" := rfl
  have s3 : (.str ⟨[97, 97].toArray⟩ : Dat) = .str "aa" := rfl
  rw [s1, s2] at f1
  rw [s1, s3] at f2
  refine runD_val (r := [none, none, none, none, none, none, none]) rfl ?_ rfl
  refine (runB_next (r' := [none, none, none, none, none, none, none]) ?_).trans ?_
  · rw [runS_for, src]
    exact lp
  · refine runB_ret ?_
    simp [frz, res, resAll, giveBack, hW.hs.io, f1, f2, sem2, pre2, semIs, truthD]
theorem law_true (ns : List Int) (h : ns.length ≤ 63) : (Phi TT 1000000 30).phi "law" [.lst (ns.map .int)] = some (.val (.bl true), .non) := by
  have tk : ∀ k, HasTake (Phi TT 1000000 (k + 1)) := fun k => ⟨rfl, fun row m h0 h1 h2 => take_run _ _ h0 h1 h2⟩
  have sb : ∀ k {cs : List Nat} {m : Dat} {rows ends : List Dat}, Mach cs m rows ends → ∀ {w : List Nat}, (∀ c ∈ w, c ∈ cs) → (Phi TT 1000000 (k + 1)).phi "state_behind" [m, .str ⟨w.toArray⟩] = some (.val (.int (final cs rows w)), .non) := fun k _ _ _ _ hm _ hw => behind_run _ _ hm hw
  have hs : ∀ k, HasHas (Phi TT 1000000 (k + 2)) := fun k => ⟨rfl, fun hm _ hw => has_run _ _ hm rfl (sb k hm hw)⟩
  have ht : ∀ k, HasTruth (Phi TT 1000000 (k + 1)) := fun k => ⟨rfl, fun x y => truth_run (Phi TT 1000000 k) 1000000 x y⟩
  exact law_run (Phi TT 1000000 29) 1000000 {
    tk := tk 28
    hs := hs 27
    io1 := rfl
    run1 := fun cell => stream_run _ _ cell
    io2 := rfl
    run2 := fun row h => letters_run _ (tk 27) h
    io3 := rfl
    run3 := fun row cs most h h0 h1 => machine_run _ (tk 27) h h0 h1
    io4 := rfl
    run4 := fun row cs most h h0 h1 h2 h3 => word_run _ (tk 27) h h0 h1 h2 h3
    io5 := rfl
    run5 := fun hm _ hw hl => right_run _ _ (hs 26) (ht 27) hm hw hl } h
end K

namespace K
open PySem PySem.Spec PyProof.Rows L2 Dl
abbrev fuel : Nat := 1000000
theorem fin {w : World} {K : PySem.W.Frag} {h : Heap} {mg : Str → Option Value} {fa : Addr} (X : K.In h) (G : h.Ns mainGlobals mg) (hfa : mg "law" = some (.ref fa)) {n k : Nat}
    {f0 : Addr} {od0 an0 : Option Addr} {sl0 : Array (Option Value)} {oc0 kV0 dc0 pm0 cd0 ct0 : Value}
    {f1 : Addr} {od1 an1 : Option Addr} {sl1 : Array (Option Value)} {oc1 kV1 dc1 pm1 cd1 ct1 : Value}
    {f2 : Addr} {od2 an2 : Option Addr} {sl2 : Array (Option Value)} {oc2 kV2 dc2 pm2 cd2 ct2 : Value}
    {f3 : Addr} {od3 an3 : Option Addr} {sl3 : Array (Option Value)} {oc3 kV3 dc3 pm3 cd3 ct3 : Value}
    {f4 : Addr} {od4 an4 : Option Addr} {sl4 : Array (Option Value)} {oc4 kV4 dc4 pm4 cd4 ct4 : Value}
    {f5 : Addr} {od5 an5 : Option Addr} {sl5 : Array (Option Value)} {oc5 kV5 dc5 pm5 cd5 ct5 : Value}
    {f6 : Addr} {od6 an6 : Option Addr} {sl6 : Array (Option Value)} {oc6 kV6 dc6 pm6 cd6 ct6 : Value}
    {f7 : Addr} {od7 an7 : Option Addr} {sl7 : Array (Option Value)} {oc7 kV7 dc7 pm7 cd7 ct7 : Value}
    {f8 : Addr} {od8 an8 : Option Addr} {sl8 : Array (Option Value)} {oc8 kV8 dc8 pm8 cd8 ct8 : Value}
    {f9 : Addr} {od9 an9 : Option Addr} {sl9 : Array (Option Value)} {oc9 kV9 dc9 pm9 cd9 ct9 : Value}
    (a0 : PySem.W.nsIn K mainGlobals "state_behind" = some (some (.ref f0))) (l0 : K.lookup f0 = some ⟨oc0, od0, .func (PySem.W.fnOf "state_behind" "state_behind" (defArgs s_state_behind) (defBody s_state_behind) (defScope s_state_behind) .none kV0 dc0 pm0 an0 cd0 ct0), sl0⟩) (c0 : PySem.W.codeIn K cd0 "state_behind" = true) (k0 : PySem.W.keepIn K (.ref f0) = true)
    (a1 : PySem.W.nsIn K mainGlobals "has" = some (some (.ref f1))) (l1 : K.lookup f1 = some ⟨oc1, od1, .func (PySem.W.fnOf "has" "has" (defArgs s_has) (defBody s_has) (defScope s_has) .none kV1 dc1 pm1 an1 cd1 ct1), sl1⟩) (c1 : PySem.W.codeIn K cd1 "has" = true) (k1 : PySem.W.keepIn K (.ref f1) = true)
    (a2 : PySem.W.nsIn K mainGlobals "_law_stream" = some (some (.ref f2))) (l2 : K.lookup f2 = some ⟨oc2, od2, .func (PySem.W.fnOf "_law_stream" "_law_stream" (defArgs s_law_stream) (defBody s_law_stream) (defScope s_law_stream) .none kV2 dc2 pm2 an2 cd2 ct2), sl2⟩) (c2 : PySem.W.codeIn K cd2 "_law_stream" = true) (k2 : PySem.W.keepIn K (.ref f2) = true)
    (a3 : PySem.W.nsIn K mainGlobals "_law_take" = some (some (.ref f3))) (l3 : K.lookup f3 = some ⟨oc3, od3, .func (PySem.W.fnOf "_law_take" "_law_take" (defArgs s_law_take) (defBody s_law_take) (defScope s_law_take) .none kV3 dc3 pm3 an3 cd3 ct3), sl3⟩) (c3 : PySem.W.codeIn K cd3 "_law_take" = true) (k3 : PySem.W.keepIn K (.ref f3) = true)
    (a4 : PySem.W.nsIn K mainGlobals "_law_letters" = some (some (.ref f4))) (l4 : K.lookup f4 = some ⟨oc4, od4, .func (PySem.W.fnOf "_law_letters" "_law_letters" (defArgs s_law_letters) (defBody s_law_letters) (defScope s_law_letters) .none kV4 dc4 pm4 an4 cd4 ct4), sl4⟩) (c4 : PySem.W.codeIn K cd4 "_law_letters" = true) (k4 : PySem.W.keepIn K (.ref f4) = true)
    (a5 : PySem.W.nsIn K mainGlobals "_law_machine" = some (some (.ref f5))) (l5 : K.lookup f5 = some ⟨oc5, od5, .func (PySem.W.fnOf "_law_machine" "_law_machine" (defArgs s_law_machine) (defBody s_law_machine) (defScope s_law_machine) .none kV5 dc5 pm5 an5 cd5 ct5), sl5⟩) (c5 : PySem.W.codeIn K cd5 "_law_machine" = true) (k5 : PySem.W.keepIn K (.ref f5) = true)
    (a6 : PySem.W.nsIn K mainGlobals "_law_word" = some (some (.ref f6))) (l6 : K.lookup f6 = some ⟨oc6, od6, .func (PySem.W.fnOf "_law_word" "_law_word" (defArgs s_law_word) (defBody s_law_word) (defScope s_law_word) .none kV6 dc6 pm6 an6 cd6 ct6), sl6⟩) (c6 : PySem.W.codeIn K cd6 "_law_word" = true) (k6 : PySem.W.keepIn K (.ref f6) = true)
    (a7 : PySem.W.nsIn K mainGlobals "_law_truth" = some (some (.ref f7))) (l7 : K.lookup f7 = some ⟨oc7, od7, .func (PySem.W.fnOf "_law_truth" "_law_truth" (defArgs s_law_truth) (defBody s_law_truth) (defScope s_law_truth) .none kV7 dc7 pm7 an7 cd7 ct7), sl7⟩) (c7 : PySem.W.codeIn K cd7 "_law_truth" = true) (k7 : PySem.W.keepIn K (.ref f7) = true)
    (a8 : PySem.W.nsIn K mainGlobals "_law_right" = some (some (.ref f8))) (l8 : K.lookup f8 = some ⟨oc8, od8, .func (PySem.W.fnOf "_law_right" "_law_right" (defArgs s_law_right) (defBody s_law_right) (defScope s_law_right) .none kV8 dc8 pm8 an8 cd8 ct8), sl8⟩) (c8 : PySem.W.codeIn K cd8 "_law_right" = true) (k8 : PySem.W.keepIn K (.ref f8) = true)
    (a9 : PySem.W.nsIn K mainGlobals "law" = some (some (.ref f9))) (l9 : K.lookup f9 = some ⟨oc9, od9, .func (PySem.W.fnOf "law" "law" (defArgs s_law) (defBody s_law) (defScope s_law) .none kV9 dc9 pm9 an9 cd9 ct9), sl9⟩) (c9 : PySem.W.codeIn K cd9 "law" = true) (k9 : PySem.W.keepIn K (.ref f9) = true)
    (z0 : PySem.W.nsIn K mainGlobals "len" = some none)
    (z1 : PySem.W.nsIn K mainGlobals "int" = some none)
    (z2 : PySem.W.nsIn K mainGlobals "list" = some none)
    (z3 : PySem.W.nsIn K mainGlobals "tuple" = some none)
    (z4 : PySem.W.nsIn K mainGlobals "sorted" = some none)
    (z5 : PySem.W.nsIn K mainGlobals "isinstance" = some none)
    (z6 : PySem.W.nsIn K mainGlobals "range" = some none)
    (z7 : PySem.W.nsIn K mainGlobals "bool" = some none)
    (z8 : PySem.W.nsIn K mainGlobals "str" = some none)
    : ∃ fd : FuncData, (∀ (s : Shared) (v : Value), BindsTo s fd ⟨[v], []⟩ [("script", v)]) ∧ ∀ base : Heap, K.In base → base.Ns mainGlobals mg → FnOk PySem.Challenge.pw_likehands_k02_words_a_machine_has w K mg base CX0 (k + 1) fa fd ["script"] (spD K none 1 ((Phi TT n (k + 1)).phi "law")) := by
  have bi : ∀ x ∈ bnames, mg x = none := by
    intro x hx
    simp only [bnames, List.mem_cons, List.not_mem_nil, or_false] at hx
    rcases hx with rfl | rfl | rfl | rfl | rfl | rfl | rfl | rfl | rfl
    · exact PySem.W.mg_none_of X G z0
    · exact PySem.W.mg_none_of X G z1
    · exact PySem.W.mg_none_of X G z2
    · exact PySem.W.mg_none_of X G z3
    · exact PySem.W.mg_none_of X G z4
    · exact PySem.W.mg_none_of X G z5
    · exact PySem.W.mg_none_of X G z6
    · exact PySem.W.mg_none_of X G z7
    · exact PySem.W.mg_none_of X G z8
  have da : ∀ f D, TT.lookup f = some D → DefAt PySem.Challenge.pw_likehands_k02_words_a_machine_has K mg TT f D := by
    intro f D h
    unfold TT at h
    rw [List.lookup_cons] at h
    split at h
    · rename_i e
      cases h
      cases eq_of_beq e
      exact at_mk X G sc_state_behind (by decide) ck_state_behind (fun _ _ _ _ _ _ us hl => match us, hl with | [_, _], _ => rfl) a0 l0 c0 k0
    rw [List.lookup_cons] at h
    split at h
    · rename_i e
      cases h
      cases eq_of_beq e
      exact at_mk X G sc_has (by decide) ck_has (fun _ _ _ _ _ _ us hl => match us, hl with | [_, _], _ => rfl) a1 l1 c1 k1
    rw [List.lookup_cons] at h
    split at h
    · rename_i e
      cases h
      cases eq_of_beq e
      exact at_mk X G sc_law_stream (by decide) ck_law_stream (fun _ _ _ _ _ _ us hl => match us, hl with | [_], _ => rfl) a2 l2 c2 k2
    rw [List.lookup_cons] at h
    split at h
    · rename_i e
      cases h
      cases eq_of_beq e
      exact at_mk X G sc_law_take (by decide) ck_law_take (fun _ _ _ _ _ _ us hl => match us, hl with | [_, _], _ => rfl) a3 l3 c3 k3
    rw [List.lookup_cons] at h
    split at h
    · rename_i e
      cases h
      cases eq_of_beq e
      exact at_mk X G sc_law_letters (by decide) ck_law_letters (fun _ _ _ _ _ _ us hl => match us, hl with | [_], _ => rfl) a4 l4 c4 k4
    rw [List.lookup_cons] at h
    split at h
    · rename_i e
      cases h
      cases eq_of_beq e
      exact at_mk X G sc_law_machine (by decide) ck_law_machine (fun _ _ _ _ _ _ us hl => match us, hl with | [_, _, _], _ => rfl) a5 l5 c5 k5
    rw [List.lookup_cons] at h
    split at h
    · rename_i e
      cases h
      cases eq_of_beq e
      exact at_mk X G sc_law_word (by decide) ck_law_word (fun _ _ _ _ _ _ us hl => match us, hl with | [_, _, _], _ => rfl) a6 l6 c6 k6
    rw [List.lookup_cons] at h
    split at h
    · rename_i e
      cases h
      cases eq_of_beq e
      exact at_mk X G sc_law_truth (by decide) ck_law_truth (fun _ _ _ _ _ _ us hl => match us, hl with | [_, _], _ => rfl) a7 l7 c7 k7
    rw [List.lookup_cons] at h
    split at h
    · rename_i e
      cases h
      cases eq_of_beq e
      exact at_mk X G sc_law_right (by decide) ck_law_right (fun _ _ _ _ _ _ us hl => match us, hl with | [_, _], _ => rfl) a8 l8 c8 k8
    rw [List.lookup_cons] at h
    split at h
    · rename_i e
      cases h
      cases eq_of_beq e
      exact at_mk X G sc_law (by decide) ck_law (fun _ _ _ _ _ _ us hl => match us, hl with | [_], _ => rfl) a9 l9 c9 k9
    cases h
  exact law_fin X G hfa (n := n) (k := k) sc_law (by decide) ck_law rfl rfl rfl rfl (fun _ _ _ _ _ _ us hl => match us, hl with | [_], _ => rfl) a9 l9 c9 k9 bi da
end K
open PySem PySem.W PyProof.Rows
set_option maxHeartbeats 0 in
theorem PySem.Challenge.cw_likehands_k02_words_a_machine_has_holds : PySem.Challenge.rw_likehands_k02_words_a_machine_has.Holds := by
  w_on; o_law; k_head; (case hw => w_witness2)
  k_fill
  refine L2.walk_of (l := PySem.Challenge.rw_likehands_k02_words_a_machine_has) (n := 63) (k := 30) (x := "script") (CX := fun _ => L2.CX0) (sp := fun w => Dl.spD _ none 1 ((Dl.Phi K.TT K.fuel 30).phi "law")) rfl (by decide) rfl ⟨rfl, by decide, by decide⟩ (fun w h Y => PySem.W.kIn_of Y) ?F (fun _ _ a ns hl _ hS => Dl.law_sp hS hl (K.law_true ns hl)) (fun _ _ _ _ _ h => h)
  case F =>
    intro w mg fa h KX G hmg
    refine' K.fin (n := K.fuel) (k := 29) KX G hmg ?a0 ?l0 ?c0 ?k0 ?a1 ?l1 ?c1 ?k1 ?a2 ?l2 ?c2 ?k2 ?a3 ?l3 ?c3 ?k3 ?a4 ?l4 ?c4 ?k4 ?a5 ?l5 ?c5 ?k5 ?a6 ?l6 ?c6 ?k6 ?a7 ?l7 ?c7 ?k7 ?a8 ?l8 ?c8 ?k8 ?a9 ?l9 ?c9 ?k9 ?z0 ?z1 ?z2 ?z3 ?z4 ?z5 ?z6 ?z7 ?z8
    (case a0 => k_is); (case l0 => k_is); (case c0 => k_is); (case k0 => k_is); (case a1 => k_is); (case l1 => k_is); (case c1 => k_is); (case k1 => k_is); (case a2 => k_is); (case l2 => k_is); (case c2 => k_is); (case k2 => k_is); (case a3 => k_is); (case l3 => k_is); (case c3 => k_is); (case k3 => k_is); (case a4 => k_is); (case l4 => k_is); (case c4 => k_is); (case k4 => k_is); (case a5 => k_is); (case l5 => k_is); (case c5 => k_is); (case k5 => k_is); (case a6 => k_is); (case l6 => k_is); (case c6 => k_is); (case k6 => k_is); (case a7 => k_is); (case l7 => k_is); (case c7 => k_is); (case k7 => k_is); (case a8 => k_is); (case l8 => k_is); (case c8 => k_is); (case k8 => k_is); (case a9 => k_is); (case l9 => k_is); (case c9 => k_is); (case k9 => k_is); (case z0 => k_is); (case z1 => k_is); (case z2 => k_is); (case z3 => k_is); (case z4 => k_is); (case z5 => k_is); (case z6 => k_is); (case z7 => k_is); (case z8 => k_is)

