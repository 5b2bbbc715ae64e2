import PyProof.Rows.All
import Wide.All
import OpenK.AllK
import Wide.FinOn
import HandS.ForMost
import HandS.Codes
import HandS.Style
import KE.KDictKeyed
import KE.KeyNested
import HandS.SetKeys
import HandS.More
import HandS.Iter
import HandS.TupMul
import PyProof.Rows.TupTab
import HandS.TupLen
import KE.GoesNew
import HandS.Strs
import HandS.IsInst
import HandS.StrMore
import HandS.Conv
import PyProof.ListStr
import PyProof.StrOps2
import PyProof.Rows.SortShellAny
import PyProof.CollectStr
import HandS.Flow
import PySem.Challenge.RW_likehands_k78_words_with_both
set_option Elab.async false
set_option linter.all false
set_option maxRecDepth 100000
set_option maxHeartbeats 4000000
/-! D1: plain data, what denotes it in a heap, the fit between a data frame and a heap. -/
namespace Dl
open PySem PySem.Spec PyProof.Rows L2

/-- what is laid for good, and the world (texts' hashes) -/
structure Kw where
  K : PySem.W.Frag
  w : World
instance : Coe Kw PySem.W.Frag := ⟨Kw.K⟩
abbrev _root_.L2.Cx.kw (X : L2.Cx) : Kw := ⟨X.K, X.w⟩

/-- plain data: what a value is, without addresses -/
inductive Dat where
  | non | bl (b : Bool) | int (i : Int) | str (x : Str)
  | tup (ds : List Dat) | lst (ds : List Dat) | dct (ks vs : List Dat)
  | fn (c : Nat) (ds : List Dat)

/-- a key: an int or a text -/
def flatK : Dat → Bool
  | .int _ => true
  | .str _ => true
  | _ => false
def toK : Dat → Key
  | .int i => .inl i
  | .str x => .inr x
  | _ => .inl 0
mutual
/-- a datum as a nested key -/
def nkey : Dat → NestedKey
  | .non => .none
  | .bl b => .num (if b = true then 1 else 0)
  | .int i => .num i
  | .str x => .text x
  | .tup ds => .tup (nkeys ds)
  | .lst _ => .none
  | .dct _ _ => .none
  | .fn _ _ => .none
def nkeys : List Dat → List NestedKey
  | [] => []
  | d :: ds => nkey d :: nkeys ds
end
mutual
/-- may it be (a part of) a nested key: to the depth n -/
def nokey : Nat → Dat → Bool
  | _, .non => true
  | _, .bl _ => true
  | _, .int _ => true
  | _, .str _ => true
  | n + 1, .tup ds => nokeys n ds
  | _, _ => false
def nokeys : Nat → List Dat → Bool
  | _, [] => true
  | n, d :: ds => nokey n d && nokeys n ds
end
/-- a tuple that may be a key -/
def tupK : Dat → Bool
  | .tup ds => nokeys 7 ds
  | _ => false
/-- a dict with tuples for keys -/
def DN (w : World) (a : Addr) (ps : List (NestedKey × Addr × V)) : HO := .ext fun h => ps.length ≤ sizeLine ∧ (a == sysModules) = false ∧ ∃ xs : List (NestedKey × Addr × Value),
  Paired (fun (p : NestedKey × Addr × V) (q : NestedKey × Addr × Value) => p.1 = q.1 ∧ p.2.1 = q.2.1 ∧ RelV p.2.2 q.2.2) ps xs ∧
  ∃ o es ep, h.get? a = some o ∧ o.ExactDict ∧ o.data = .dict es ep ∧ es.toList = xs.map (fun x => (⟨x.1.hash w, .ref x.2.1, x.2.2⟩ : DictEntry)) ∧ (xs.map (·.1)).Nodup
/-- the object u at a is a dict of the keys ks: their values ws, the entries' values zs -/
def DOk (K : Kw) (a : Addr) (u : HO) (ks : List Dat) (ws zs : List V) : Prop := ws.length ≤ sizeLine ∧
  ((∃ ps : List (Key × V), u = .dK ps ∧ ws = ps.map (fun p => kV p.1) ∧ zs = ps.map (·.2)) ∨
   (∃ ps : List (NestedKey × Addr × V), u = DN K.w a ps ∧ ws = ps.map (fun p => V.ref p.2.1) ∧ zs = ps.map (·.2.2) ∧ nkeys ks = ps.map (·.1) ∧ ks.all tupK = true ∧ ps ≠ []))

mutual
/-- the value v stands for the datum in the heap H -/
def Den (K : Kw) (H : Hp) : Dat → V → Prop
  | .non, v => v = .non
  | .bl b, v => v = .bl b
  | .int i, v => v = .int i
  | .str x, v => v = .str x ∧ x.length ≤ sizeLine
  | .tup ds, v => ∃ a xs, v = .ref a ∧ SqT K H a xs ∧ xs.length ≤ sizeLine ∧ DenL K H ds xs
  | .lst ds, v => ∃ a xs, v = .ref a ∧ SqL K H a xs ∧ xs.length ≤ sizeLine ∧ DenL K H ds xs
  | .dct ks vs, v => ∃ a u ws zs, v = .ref a ∧ H a = some u ∧ DOk K a u ks ws zs ∧ DenL K H ks ws ∧ DenL K H vs zs
  | .fn _ _, _ => False
def DenL (K : Kw) (H : Hp) : List Dat → List V → Prop
  | [], xs => xs = []
  | d :: ds, xs => ∃ v vs, xs = v :: vs ∧ Den K H d v ∧ DenL K H ds vs
end

theorem Same.rd {H H' : Hp} {a : Addr} {u : HO} (e : Same H H') (h : Rd H a u) : Rd H' a u := by
  rcases h with h | ⟨o, h⟩
  · exact .inl (e _ _ h)
  · exact .inr ⟨o, e _ _ h⟩
theorem Same.seqT {K : Kw} {H H' : Hp} {a : Addr} {xs : List V} (e : Same H H') (h : SqT K H a xs) : SqT K H' a xs := by
  rcases h with (h | ⟨o, h⟩) | h
  · exact .inl (.inl (e _ _ h))
  · exact .inl (.inr ⟨o, e _ _ h⟩)
  · exact .inr h

mutual
theorem Den.mono {K : Kw} {H H' : Hp} (s : Same H H') : ∀ (d : Dat) {v : V}, Den K H d v → Den K H' d v
  | .non, _, h => h
  | .bl _, _, h => h
  | .int _, _, h => h
  | .str _, _, h => h
  | .tup ds, _, ⟨a, xs, e, q, l, r⟩ => ⟨a, xs, e, Same.seqT s q, l, DenL.mono s ds r⟩
  | .lst ds, _, ⟨a, xs, e, q, l, r⟩ => ⟨a, xs, e, s.seq q, l, DenL.mono s ds r⟩
  | .dct ks vs, _, ⟨a, u, ws, zs, e, q, l, r1, r2⟩ => ⟨a, u, ws, zs, e, s _ _ q, l, DenL.mono s ks r1, DenL.mono s vs r2⟩
  | .fn _ _, _, h => h
theorem DenL.mono {K : Kw} {H H' : Hp} (s : Same H H') : ∀ (ds : List Dat) {xs : List V}, DenL K H ds xs → DenL K H' ds xs
  | [], _, h => h
  | d :: ds, _, ⟨v, vs, e, h, r⟩ => ⟨v, vs, e, Den.mono s d h, DenL.mono s ds r⟩
end

section
variable {K : Kw} {H : Hp}
theorem DenL.length : ∀ {ds : List Dat} {xs : List V}, DenL K H ds xs → ds.length = xs.length
  | [], _, h => by cases h; rfl
  | d :: ds, _, ⟨v, vs, e, h, r⟩ => by
    cases e
    rw [List.length_cons, List.length_cons, DenL.length r]
theorem DenL.get : ∀ {ds : List Dat} {xs : List V} {i : Nat} {x : V}, DenL K H ds xs → xs[i]? = some x → ∃ d, ds[i]? = some d ∧ Den K H d x
  | [], _, i, x, h, e => by cases h; simp at e
  | d :: ds, _, 0, x, ⟨v, vs, e, h, r⟩, g => by
    cases e
    cases g
    exact ⟨d, rfl, h⟩
  | d :: ds, _, i + 1, x, ⟨v, vs, e, h, r⟩, g => by
    cases e
    exact DenL.get (i := i) r g
theorem DenL.getD : ∀ {ds : List Dat} {xs : List V} {i : Nat} {d : Dat}, DenL K H ds xs → ds[i]? = some d → ∃ x, xs[i]? = some x ∧ Den K H d x
  | [], _, i, x, h, e => by simp at e
  | d :: ds, _, 0, x, ⟨v, vs, e, h, r⟩, g => by
    cases e
    cases g
    exact ⟨v, rfl, h⟩
  | d :: ds, _, i + 1, x, ⟨v, vs, e, h, r⟩, g => by
    cases e
    exact DenL.getD (i := i) r g
theorem DenL.app : ∀ {ds es : List Dat} {xs ys : List V}, DenL K H ds xs → DenL K H es ys → DenL K H (ds ++ es) (xs ++ ys)
  | [], _, _, _, h, g => by cases h; exact g
  | d :: ds, _, _, _, ⟨v, vs, e, h, r⟩, g => by
    cases e
    exact ⟨v, _, rfl, h, DenL.app r g⟩
theorem DenL.one {d : Dat} {x : V} (h : Den K H d x) : DenL K H [d] [x] := ⟨x, [], rfl, h, rfl⟩
theorem DenL.nil : DenL K H [] [] := rfl
theorem DenL.cons {d : Dat} {x : V} {ds : List Dat} {xs : List V} (h : Den K H d x) (r : DenL K H ds xs) : DenL K H (d :: ds) (x :: xs) := ⟨x, xs, rfl, h, r⟩
theorem DenL.take : ∀ {ds : List Dat} {xs : List V} (n : Nat), DenL K H ds xs → DenL K H (ds.take n) (xs.take n)
  | _, _, 0, _ => rfl
  | [], _, n + 1, h => by cases h; rfl
  | d :: ds, _, n + 1, ⟨v, vs, e, h, r⟩ => by
    cases e
    exact ⟨v, _, rfl, h, DenL.take n r⟩
theorem DenL.drop : ∀ {ds : List Dat} {xs : List V} (n : Nat), DenL K H ds xs → DenL K H (ds.drop n) (xs.drop n)
  | _, _, 0, h => h
  | [], _, n + 1, h => by cases h; rfl
  | d :: ds, _, n + 1, ⟨v, vs, e, h, r⟩ => by
    cases e
    exact DenL.drop n r
theorem DenL.set {d : Dat} {x : V} (q : Den K H d x) : ∀ {ds : List Dat} {xs : List V} (n : Nat), DenL K H ds xs → DenL K H (ds.set n d) (xs.set n x)
  | [], _, n, h => by cases h; rfl
  | _ :: ds, _, 0, ⟨v, vs, e, h, r⟩ => by
    cases e
    exact ⟨x, _, rfl, q, r⟩
  | _ :: ds, _, n + 1, ⟨v, vs, e, h, r⟩ => by
    cases e
    exact ⟨v, _, rfl, h, DenL.set q n r⟩
theorem DenL.erase : ∀ {ds : List Dat} {xs : List V} (n : Nat), DenL K H ds xs → DenL K H (ds.eraseIdx n) (xs.eraseIdx n)
  | [], _, n, h => by cases h; rfl
  | _ :: ds, _, 0, ⟨v, vs, e, h, r⟩ => by
    cases e
    exact r
  | _ :: ds, _, n + 1, ⟨v, vs, e, h, r⟩ => by
    cases e
    exact ⟨v, _, rfl, h, DenL.erase n r⟩
theorem DenL.rev : ∀ {ds : List Dat} {xs : List V}, DenL K H ds xs → DenL K H ds.reverse xs.reverse
  | [], _, h => by cases h; rfl
  | d :: ds, _, ⟨v, vs, e, h, r⟩ => by
    cases e
    rw [List.reverse_cons, List.reverse_cons]
    exact DenL.app (DenL.rev r) (DenL.one h)
theorem DenL.empty {ds : List Dat} {xs : List V} (h : DenL K H ds xs) : (!xs.isEmpty) = !ds.isEmpty := by
  cases ds with
  | nil => cases h; rfl
  | cons d ds =>
    obtain ⟨v, vs, e, _, _⟩ := h
    cases e
    rfl
theorem DenL.ints : ∀ {ns : List Int} {xs : List V}, DenL K H (ns.map Dat.int) xs → xs = ns.map V.int
  | [], _, h => h
  | n :: ns, _, ⟨v, vs, e, h, r⟩ => by
    rw [e, show v = V.int n from h, DenL.ints r]
    rfl
theorem DenL.of_ints : ∀ (ns : List Int), DenL K H (ns.map Dat.int) (ns.map V.int)
  | [] => rfl
  | n :: ns => ⟨_, _, rfl, rfl, DenL.of_ints ns⟩
theorem DenL.strs : ∀ {ns : List Str} {xs : List V}, DenL K H (ns.map Dat.str) xs → xs = ns.map V.str ∧ ∀ n ∈ ns, n.length ≤ sizeLine
  | [], _, h => ⟨h, fun _ q => nomatch q⟩
  | n :: ns, _, ⟨v, vs, e, h, r⟩ => by
    obtain ⟨e1, h1⟩ := DenL.strs r
    rw [e, h.1, e1]
    refine ⟨rfl, fun m hm => ?_⟩
    rcases List.mem_cons.mp hm with rfl | hm
    · exact h.2
    · exact h1 m hm
theorem DenL.of_strs : ∀ (ns : List Str), (∀ n ∈ ns, n.length ≤ sizeLine) → DenL K H (ns.map Dat.str) (ns.map V.str)
  | [], _ => rfl
  | n :: ns, h => ⟨_, _, rfl, ⟨rfl, h n List.mem_cons_self⟩, DenL.of_strs ns fun m hm => h m (List.mem_cons_of_mem _ hm)⟩
theorem DenL.bls : ∀ {ns : List Bool} {xs : List V}, DenL K H (ns.map Dat.bl) xs → xs = ns.map V.bl
  | [], _, h => h
  | n :: ns, _, ⟨v, vs, e, h, r⟩ => by
    rw [e, show v = V.bl n from h, DenL.bls r]
    rfl
end

/-- how a slot holds its datum: settled for ever; its own list, that may change; its caller's list, that may change -/
inductive Mu where
  | fz | own | io
  deriving DecidableEq
/-- a slot -/
structure Sl where
  d : Dat
  m : Mu
abbrev Rho := List (Option Sl)
/-- what an expression gives: a datum, a new list of one's own, or what stands in a slot -/
inductive Out where
  | val (d : Dat) | fresh (d : Dat) | place (i : Nat)

def look (r : Rho) (i : Nat) : Option Sl := (r[i]?).join
theorem look_some {r : Rho} {i : Nat} {s : Sl} (h : look r i = some s) : r[i]? = some (some s) := by
  unfold look at h
  cases e : r[i]? with
  | none => rw [e] at h; cases h
  | some o =>
    rw [e] at h
    cases o with
    | none => cases h
    | some t => cases h; rfl
theorem look_of {r : Rho} {i : Nat} {s : Sl} (h : r[i]? = some (some s)) : look r i = some s := by
  unfold look
  rw [h]
  rfl

/-- the list or dict at a, one's own: its items stand in F -/
def Own (K : Kw) (F H : Hp) (a : Addr) : Dat → Prop
  | .lst ds => ∃ xs, H a = some (.lst xs) ∧ xs.length ≤ sizeLine ∧ DenL K F ds xs
  | .dct ks vs => ∃ u ws zs, H a = some u ∧ DOk K a u ks ws zs ∧ DenL K F ks ws ∧ DenL K F vs zs
  | _ => False

/-- a call of a def: the heap at its entry (H0), what of it is settled (F0), the addresses that it may change, slots that stay -/
structure Fr where
  K : Kw
  H0 : Hp
  F0 : Hp
  io : Addr → Prop
  pro : List (Nat × V)

/-- the addresses that the slots own -/
def Mine (r : Rho) (σ : L2.St) (a : Addr) : Prop := ∃ (i : Nat) (s : Sl), r[i]? = some (some s) ∧ s.m ≠ .fz ∧ σ[i]? = some (some (.ref a))

def SlotOk (A : Fr) (F H : Hp) (s : Sl) (v : V) : Prop :=
  match s.m with
  | .fz => Den A.K F s.d v
  | .own => ∃ a, v = .ref a ∧ F a = none ∧ A.H0 a = none ∧ ¬ A.io a ∧ Own A.K F H a s.d
  | .io => ∃ a, v = .ref a ∧ F a = none ∧ A.io a ∧ Own A.K F H a s.d

structure Fit (A : Fr) (r : Rho) (F : Hp) (σ : L2.St) (H : Hp) : Prop where
  sub : Same F H
  keep : ∀ b o, A.H0 b = some o → ¬ A.io b → H b = some o
  newf : ∀ b o, F b = some o → A.F0 b = some o ∨ A.H0 b = none
  f0 : Same A.F0 F
  ioh : ∀ b, A.io b → ∃ o, H b = some o
  slot : ∀ (i : Nat) (s : Sl), r[i]? = some (some s) → ∃ v, σ[i]? = some (some v) ∧ SlotOk A F H s v
  sep : ∀ (i j : Nat) (s t : Sl) (a : Addr), i ≠ j → r[i]? = some (some s) → s.m ≠ .fz → r[j]? = some (some t) → t.m ≠ .fz → σ[i]? = some (some (.ref a)) → σ[j]? ≠ some (some (.ref a))
  pro : ∀ p ∈ A.pro, σ[p.1]? = some (some p.2)
  len : r.length = σ.length

/-- the datum as it is seen: a list's items stand in F, itself in H -/
def Seen (K : Kw) (F H : Hp) : Dat → V → Prop
  | .lst ds, v => ∃ a xs, v = .ref a ∧ SqL K H a xs ∧ xs.length ≤ sizeLine ∧ DenL K F ds xs
  | .dct ks vs, v => ∃ a u ws zs, v = .ref a ∧ H a = some u ∧ DOk K a u ks ws zs ∧ DenL K F ks ws ∧ DenL K F vs zs
  | d, v => Den K F d v
theorem Seen.of {K : Kw} {F H : Hp} (s : Same F H) {d : Dat} {v : V} (h : Den K F d v) : Seen K F H d v := by
  cases d with
  | lst ds =>
    obtain ⟨a, xs, e, q, l, r⟩ := h
    exact ⟨a, xs, e, s.seq q, l, r⟩
  | dct ks vs =>
    obtain ⟨a, u, ws, zs, e, q, l, r1, r2⟩ := h
    exact ⟨a, u, ws, zs, e, s _ _ q, l, r1, r2⟩
  | _ => exact h
theorem Seen.own {K : Kw} {F H : Hp} {a : Addr} {d : Dat} (h : Own K F H a d) : Seen K F H d (.ref a) := by
  cases d with
  | lst ds =>
    obtain ⟨xs, e, l, r⟩ := h
    exact ⟨a, xs, rfl, SqL.of e, l, r⟩
  | dct ks vs =>
    obtain ⟨u, ws, zs, e, l, r1, r2⟩ := h
    exact ⟨a, u, ws, zs, rfl, e, l, r1, r2⟩
  | _ => exact h.elim
theorem Fit.seen {A : Fr} {r : Rho} {F : Hp} {σ : L2.St} {H : Hp} (h : Fit A r F σ H) {i : Nat} {s : Sl} {v : V} (e : r[i]? = some (some s)) (ev : σ[i]? = some (some v)) : Seen A.K F H s.d v := by
  obtain ⟨u, e2, q⟩ := h.slot i s e
  rw [ev] at e2
  cases e2
  unfold SlotOk at q
  split at q
  · exact Seen.of h.sub q
  · obtain ⟨a, rfl, _, _, _, o⟩ := q
    exact Seen.own o
  · obtain ⟨a, rfl, _, _, o⟩ := q
    exact Seen.own o

/-- what an expression has given -/
def OutOk (A : Fr) (r : Rho) (F : Hp) (σ : L2.St) (H : Hp) : Out → V → Prop
  | .val d, v => Den A.K F d v
  | .fresh d, v => ∃ a, v = .ref a ∧ F a = none ∧ A.H0 a = none ∧ ¬ A.io a ∧ Own A.K F H a d ∧ ¬ Mine r σ a
  | .place i, v => σ[i]? = some (some v)

/-- what an operation has made of a heap -/
structure New (K : Kw) (F H F' H' : Hp) : Prop where
  ff : Same F F'
  fh : Same F' H'
  hh : Same H H'
  nw : ∀ b o, F' b = some o → F b = some o ∨ H b = none
def NewOk (K : Kw) (F H : Hp) (v : V) (H' : Hp) : Out → Prop
  | .val d => ∃ F', New K F H F' H' ∧ Den K F' d v
  | .fresh d => ∃ a, New K F H F H' ∧ v = .ref a ∧ H a = none ∧ Own K F H' a d
  | .place _ => False

section
variable {K : Kw} {F H : Hp}
theorem New.refl (s : Same F H) : New K F H F H := ⟨Same.refl F, s, Same.refl H, fun _ _ h => .inl h⟩
theorem same_upd {H : Hp} {p : Addr} {o : HO} (h : H p = none) : Same H (upd H p o) := fun b x e => by
  rw [upd_ne (ne_of_none e h)]
  exact e
theorem NewOk.same (s : Same F H) {d : Dat} {v : V} (h : Den K F d v) : NewOk K F H v H (.val d) := ⟨F, New.refl s, h⟩
/-- a new tuple -/
theorem NewOk.tup (s : Same F H) {p : Addr} (hp : H p = none) {xs : List V} {ds : List Dat} (l : xs.length ≤ sizeLine) (h : DenL K F ds xs) : NewOk K F H (.ref p) (upd H p (.tup xs)) (.val (.tup ds)) := by
  have fp : F p = none := s.free hp
  refine ⟨upd F p (.tup xs), ⟨same_upd fp, fun b o e => ?_, same_upd hp, fun b o e => ?_⟩, p, xs, rfl, SqT.of upd_same, l, DenL.mono (same_upd fp) ds h⟩
  · by_cases hb : b = p
    · subst hb
      rw [upd_same] at e ⊢
      exact e
    · rw [upd_ne hb] at e ⊢
      exact s b o e
  · by_cases hb : b = p
    · subst hb
      exact .inr hp
    · rw [upd_ne hb] at e
      exact .inl e
/-- a new list -/
theorem NewOk.lst (s : Same F H) {p : Addr} (hp : H p = none) {xs : List V} {ds : List Dat} (l : xs.length ≤ sizeLine) (h : DenL K F ds xs) : NewOk K F H (.ref p) (upd H p (.lst xs)) (.fresh (.lst ds)) :=
  ⟨p, ⟨Same.refl F, fun b o e => same_upd hp b o (s b o e), same_upd hp, fun _ _ e => .inl e⟩, rfl, hp, xs, upd_same, l, h⟩
end

section
variable {A : Fr} {r : Rho} {F H F' H' : Hp} {σ : L2.St}
theorem Own.grow {K : Kw} (ff : Same F F') (hh : Same H H') {a : Addr} {d : Dat} (h : Own K F H a d) : Own K F' H' a d := by
  cases d with
  | lst ds =>
    obtain ⟨xs, e, l, q⟩ := h
    exact ⟨xs, hh _ _ e, l, DenL.mono ff ds q⟩
  | dct ks vs =>
    obtain ⟨u, ws, zs, e, l, q1, q2⟩ := h
    exact ⟨u, ws, zs, hh _ _ e, l, DenL.mono ff ks q1, DenL.mono ff vs q2⟩
  | _ => exact h
/-- .. where the object itself stays -/
theorem Own.stay {K : Kw} (ff : Same F F') {a : Addr} (hh : ∀ o, H a = some o → H' a = some o) {d : Dat} (h : Own K F H a d) : Own K F' H' a d := by
  cases d with
  | lst ds =>
    obtain ⟨xs, e, l, q⟩ := h
    exact ⟨xs, hh _ e, l, DenL.mono ff ds q⟩
  | dct ks vs =>
    obtain ⟨u, ws, zs, e, l, q1, q2⟩ := h
    exact ⟨u, ws, zs, hh _ e, l, DenL.mono ff ks q1, DenL.mono ff vs q2⟩
  | _ => exact h
theorem Own.there {K : Kw} {a : Addr} {d : Dat} (h : Own K F H a d) : ∃ o, H a = some o := by
  cases d with
  | lst ds =>
    obtain ⟨xs, e, l, q⟩ := h
    exact ⟨_, e⟩
  | dct ks vs =>
    obtain ⟨u, ws, zs, e, l, q⟩ := h
    exact ⟨_, e⟩
  | _ => exact h.elim
/-- an address at which nothing stands was free at the entry -/
theorem Fit.free (h : Fit A r F σ H) {b : Addr} (e : H b = none) : A.H0 b = none ∧ ¬ A.io b := by
  have nio : ¬ A.io b := fun z => by
    obtain ⟨o, q⟩ := h.ioh b z
    rw [e] at q
    cases q
  refine ⟨?_, nio⟩
  cases q : A.H0 b with
  | none => rfl
  | some o =>
    rw [h.keep b o q nio] at e
    cases e
/-- what a slot owns -/
theorem SlotOk.mine {s : Sl} {a : Addr} (h : SlotOk A F H s (.ref a)) (m : s.m ≠ .fz) : F a = none ∧ ((A.H0 a = none ∧ ¬ A.io a) ∨ A.io a) ∧ Own A.K F H a s.d := by
  unfold SlotOk at h
  split at h
  · rename_i e
    exact absurd e m
  · obtain ⟨b, e, h1, h2, h3, h4⟩ := h
    cases e
    exact ⟨h1, .inl ⟨h2, h3⟩, h4⟩
  · obtain ⟨b, e, h1, h2, h4⟩ := h
    cases e
    exact ⟨h1, .inr h2, h4⟩
theorem SlotOk.ref {s : Sl} {v : V} (h : SlotOk A F H s v) (m : s.m ≠ .fz) : ∃ a, v = .ref a := by
  unfold SlotOk at h
  split at h
  · rename_i e
    exact absurd e m
  · obtain ⟨b, e, _⟩ := h
    exact ⟨b, e⟩
  · obtain ⟨b, e, _⟩ := h
    exact ⟨b, e⟩
theorem Fit.mine (h : Fit A r F σ H) {a : Addr} (m : Mine r σ a) : F a = none ∧ ((A.H0 a = none ∧ ¬ A.io a) ∨ A.io a) ∧ ∃ o, H a = some o := by
  obtain ⟨i, s, e1, em, e2⟩ := m
  obtain ⟨v, e3, q⟩ := h.slot i _ e1
  rw [e2] at e3
  cases e3
  obtain ⟨h1, h2, h3⟩ := q.mine em
  exact ⟨h1, h2, Own.there h3⟩
/-- a slot's word is carried over -/
theorem SlotOk.stay {s : Sl} {v : V} (h : SlotOk A F H s v) (ff : Same F F') (hn : ∀ a, v = .ref a → s.m ≠ .fz → F a = none → F' a = none) (hh : ∀ a, v = .ref a → s.m ≠ .fz → ∀ o, H a = some o → H' a = some o) : SlotOk A F' H' s v := by
  unfold SlotOk at h ⊢
  split
  · rename_i e
    rw [e] at h
    exact Den.mono ff _ h
  · rename_i e
    rw [e] at h
    obtain ⟨b, e1, h1, h2, h3, h4⟩ := h
    exact ⟨b, e1, hn b e1 (by rw [e]; decide) h1, h2, h3, Own.stay ff (hh b e1 (by rw [e]; decide)) h4⟩
  · rename_i e
    rw [e] at h
    obtain ⟨b, e1, h1, h2, h4⟩ := h
    exact ⟨b, e1, hn b e1 (by rw [e]; decide) h1, h2, Own.stay ff (hh b e1 (by rw [e]; decide)) h4⟩
/-- the fit stays while the heap grows -/
theorem Fit.grow (h : Fit A r F σ H) (n : New A.K F H F' H') : Fit A r F' σ H' := by
  refine ⟨n.fh, fun b o e x => n.hh _ _ (h.keep b o e x), fun b o e => ?_, h.f0.trans n.ff, fun b x => ?_, fun i s e => ?_, h.sep, h.pro, h.len⟩
  · rcases n.nw b o e with q | q
    · exact h.newf b o q
    · exact .inr (h.free q).1
  · obtain ⟨o, q⟩ := h.ioh b x
    exact ⟨o, n.hh _ _ q⟩
  · obtain ⟨v, e2, q⟩ := h.slot i s e
    refine ⟨v, e2, q.stay n.ff (fun a ea em fa => ?_) (fun a _ _ o ho => n.hh _ _ ho)⟩
    subst ea
    obtain ⟨o, ho⟩ := Own.there (q.mine em).2.2
    cases qf : F' a with
    | none => rfl
    | some u =>
      rcases n.nw a u qf with z | z
      · rw [fa] at z; cases z
      · rw [ho] at z; cases z
theorem Fit.made (h : Fit A r F σ H) {v : V} {o : Out} (m : NewOk A.K F H v H' o) : ∃ F', Same F F' ∧ Fit A r F' σ H' ∧ OutOk A r F' σ H' o v := by
  cases o with
  | val d =>
    obtain ⟨F', n, q⟩ := m
    exact ⟨F', n.ff, h.grow n, q⟩
  | fresh d =>
    obtain ⟨a, n, e, hn, q⟩ := m
    refine ⟨F, Same.refl F, h.grow n, a, e, h.sub.free hn, (h.free hn).1, (h.free hn).2, q, fun mm => ?_⟩
    obtain ⟨_, _, o, z⟩ := h.mine mm
    rw [hn] at z
    cases z
  | place i => exact m.elim
/-- a list that no slot of r owns is settled -/
theorem Fit.settleO (h : Fit A r F σ H) {a : Addr} {u : HO} (h1 : F a = none) (h2 : A.H0 a = none) (e : H a = some u) (h5 : ¬ Mine r σ a) : Same F (upd F a u) ∧ Fit A r (upd F a u) σ H := by
  have sf : Same F (upd F a u) := same_upd h1
  refine ⟨sf, ⟨fun b o g => ?_, h.keep, fun b o g => ?_, h.f0.trans sf, h.ioh, fun i s g => ?_, h.sep, h.pro, h.len⟩⟩
  · by_cases hb : b = a
    · subst hb
      rw [upd_same] at g
      cases g
      exact e
    · rw [upd_ne hb] at g
      exact h.sub b o g
  · by_cases hb : b = a
    · subst hb
      exact .inr h2
    · rw [upd_ne hb] at g
      exact h.newf b o g
  · obtain ⟨v, e2, q2⟩ := h.slot i s g
    refine ⟨v, e2, q2.stay sf (fun b eb em fb => ?_) (fun _ _ _ _ ho => ho)⟩
    have nb : b ≠ a := fun z => h5 ⟨i, s, g, em, by rw [e2, eb, z]⟩
    rw [upd_ne nb]
    exact fb
theorem Fit.settle (h : Fit A r F σ H) {a : Addr} {d : Dat} (h1 : F a = none) (h2 : A.H0 a = none) (h4 : Own A.K F H a d) (h5 : ¬ Mine r σ a) :
    ∃ F', Same F F' ∧ Fit A r F' σ H ∧ Den A.K F' d (.ref a) := by
  cases d with
  | lst ds =>
    obtain ⟨xs, e, l, q⟩ := h4
    obtain ⟨sf, ft⟩ := h.settleO h1 h2 e h5
    exact ⟨_, sf, ft, a, xs, rfl, SqL.of upd_same, l, DenL.mono sf ds q⟩
  | dct ks vs =>
    obtain ⟨u, ws, zs, e, l, q1, q2⟩ := h4
    obtain ⟨sf, ft⟩ := h.settleO h1 h2 e h5
    exact ⟨_, sf, ft, a, u, ws, zs, rfl, upd_same, l, DenL.mono sf ks q1, DenL.mono sf vs q2⟩
  | _ => exact h4.elim

/-! ### slots -/
theorem Mine.sub {r r' : Rho} {σ : L2.St} {a : Addr} (hs : ∀ (i : Nat) (s : Sl), r'[i]? = some (some s) → s.m ≠ .fz → r[i]? = some (some s)) (m : Mine r' σ a) : Mine r σ a := by
  obtain ⟨i, s, e1, e2, e3⟩ := m
  exact ⟨i, s, hs i s e1 e2, e2, e3⟩
/-- slots forgotten, others as they were -/
theorem Fit.less (h : Fit A r F σ H) {r' : Rho} (hl : r'.length = r.length) (hs : ∀ (i : Nat) (s : Sl), r'[i]? = some (some s) → r[i]? = some (some s)) : Fit A r' F σ H :=
  ⟨h.sub, h.keep, h.newf, h.f0, h.ioh, fun i s e => h.slot i s (hs i s e), fun i j s t a n e1 m1 e2 m2 => h.sep i j s t a n (hs i s e1) m1 (hs j t e2) m2, h.pro, hl.trans h.len⟩
theorem set_get {α : Type} {r : List (Option α)} {i j : Nat} {o : Option α} {s : α} (h : (r.set i o)[j]? = some (some s)) : (j = i ∧ o = some s) ∨ (j ≠ i ∧ r[j]? = some (some s)) := by
  by_cases e : i = j
  · subst e
    rw [List.getElem?_set] at h
    split at h
    · split at h
      · left
        exact ⟨rfl, Option.some.inj h⟩
      · cases h
    · rename_i n
      exact absurd rfl n
  · rw [List.getElem?_set_ne e] at h
    exact .inr ⟨fun q => e q.symm, h⟩
theorem Fit.forget (h : Fit A r F σ H) (i : Nat) : Fit A (r.set i none) F σ H := by
  refine h.less (by rw [List.length_set]) fun j s e => ?_
  rcases set_get e with ⟨_, q⟩ | ⟨_, q⟩
  · cases q
  · exact q
/-- a new value for a slot that does not stay -/
theorem Fit.put (h : Fit A r F σ H) {i : Nat} {s : Sl} {v : V} (hp : ∀ p ∈ A.pro, p.1 ≠ i) (hv : SlotOk A F H s v) (hm : s.m ≠ .fz → ∀ a, v = .ref a → ¬ Mine r σ a) : Fit A (r.set i (some s)) F (σ.set i (some v)) H := by
  have hσ : ∀ {j : Nat} {u : V}, i < σ.length ∨ j ≠ i → σ[j]? = some (some u) → j ≠ i → (σ.set i (some v))[j]? = some (some u) := fun _ e n => by rw [List.getElem?_set_ne (Ne.symm n)]; exact e
  have self : i < σ.length → (σ.set i (some v))[i]? = some (some v) := fun hi => List.getElem?_set_self hi
  have get : ∀ {j : Nat} {t : Sl}, (r.set i (some s))[j]? = some (some t) → (j = i ∧ t = s ∧ i < σ.length) ∨ (j ≠ i ∧ r[j]? = some (some t)) := fun {j t} e => by
    rcases set_get e with ⟨rfl, q⟩ | q
    · refine .inl ⟨rfl, (Option.some.inj q).symm, ?_⟩
      rw [← h.len]
      have := (List.getElem?_eq_some_iff.mp e).1
      rw [List.length_set] at this
      exact this
    · exact .inr q
  refine ⟨h.sub, h.keep, h.newf, h.f0, h.ioh, fun j t e => ?_, fun j k t u a n e1 m1 e2 m2 s1 s2 => ?_, fun p hpp => ?_, by rw [List.length_set, List.length_set]; exact h.len⟩
  · rcases get e with ⟨rfl, rfl, hi⟩ | ⟨n, q⟩
    · exact ⟨v, self hi, hv⟩
    · obtain ⟨w, e1, e2⟩ := h.slot j t q
      exact ⟨w, by rw [List.getElem?_set_ne (Ne.symm n)]; exact e1, e2⟩
  · rcases get e1 with ⟨rfl, rfl, hi⟩ | ⟨n1, q1⟩
    · rcases get e2 with ⟨rfl, _, _⟩ | ⟨n2, q2⟩
      · exact n rfl
      · rw [self hi] at s1
        rw [List.getElem?_set_ne (Ne.symm n2)] at s2
        have ev : v = .ref a := Option.some.inj (Option.some.inj s1)
        exact hm m1 a ev ⟨k, u, q2, m2, s2⟩
    · rw [List.getElem?_set_ne (Ne.symm n1)] at s1
      rcases get e2 with ⟨rfl, rfl, hi⟩ | ⟨n2, q2⟩
      · rw [self hi] at s2
        have ev : v = .ref a := Option.some.inj (Option.some.inj s2)
        exact hm m2 a ev ⟨j, t, q1, m1, s1⟩
      · rw [List.getElem?_set_ne (Ne.symm n2)] at s2
        exact h.sep j k t u a n q1 m1 q2 m2 s1 s2
  · rw [List.getElem?_set_ne (Ne.symm (hp p hpp))]
    exact h.pro p hpp

/-! ### what is held while the rest is reckoned -/
def res (r : Rho) : Out → Option Dat
  | .val d => some d
  | .fresh d => some d
  | .place i => (look r i).map (·.d)
def Held (K : Kw) (F : Hp) (σ : L2.St) : Out → V → Prop
  | .val d, v => Den K F d v
  | .fresh d, v => Den K F d v
  | .place i, v => σ[i]? = some (some v)
theorem Held.mono {K : Kw} (s : Same F F') {o : Out} {v : V} (h : Held K F σ o v) : Held K F' σ o v := by
  cases o with
  | val d => exact Den.mono s d h
  | fresh d => exact Den.mono s d h
  | place i => exact h
theorem Fit.hold (h : Fit A r F σ H) {o : Out} {v : V} (q : OutOk A r F σ H o v) : ∃ F', Same F F' ∧ Fit A r F' σ H ∧ Held A.K F' σ o v := by
  cases o with
  | val d => exact ⟨F, Same.refl F, h, q⟩
  | fresh d =>
    obtain ⟨a, rfl, h1, h2, h3, h4, h5⟩ := q
    exact h.settle h1 h2 h4 h5
  | place i => exact ⟨F, Same.refl F, h, q⟩
theorem Held.seen (h : Fit A r F σ H) {o : Out} {v : V} {d : Dat} (q : Held A.K F σ o v) (e : res r o = some d) : Seen A.K F H d v := by
  cases o with
  | val x => cases e; exact Seen.of h.sub q
  | fresh x => cases e; exact Seen.of h.sub q
  | place i =>
    have e : (look r i).map (·.d) = some d := e
    cases hl : look r i with
    | none => rw [hl] at e; cases e
    | some s =>
      rw [hl] at e
      cases e
      exact h.seen (look_some hl) q

/-- settle what an expression gave -/
def frz (r : Rho) : Out → Option (Dat × Rho)
  | .val d => some (d, r)
  | .fresh d => some (d, r)
  | .place i => match look r i with
    | some ⟨d, .fz⟩ => some (d, r)
    | some ⟨d, .own⟩ => some (d, r.set i (some ⟨d, .fz⟩))
    | _ => none
theorem Fit.frz (h : Fit A r F σ H) {o : Out} {v : V} {d : Dat} {r' : Rho} (q : OutOk A r F σ H o v) (e : frz r o = some (d, r')) : ∃ F', Same F F' ∧ Fit A r' F' σ H ∧ Den A.K F' d v := by
  cases o with
  | val x => cases e; exact ⟨F, Same.refl F, h, q⟩
  | fresh x =>
    cases e
    obtain ⟨a, rfl, h1, h2, h3, h4, h5⟩ := q
    exact h.settle h1 h2 h4 h5
  | place i =>
    have e : (match look r i with
      | some ⟨d, .fz⟩ => some (d, r)
      | some ⟨d, .own⟩ => some (d, r.set i (some ⟨d, .fz⟩))
      | _ => none) = some (d, r') := e
    split at e
    · rename_i x hl
      cases e
      obtain ⟨u, e2, qs⟩ := h.slot i _ (look_some hl)
      rw [show σ[i]? = some (some v) from q] at e2
      cases e2
      exact ⟨F, Same.refl F, h, qs⟩
    · rename_i x hl
      cases e
      have hi := look_some hl
      obtain ⟨u, e2, qs⟩ := h.slot i _ hi
      rw [show σ[i]? = some (some v) from q] at e2
      cases e2
      obtain ⟨a, rfl, h1, h2, h3, h4⟩ := qs
      have hf := h.forget i
      have nm : ¬ Mine (r.set i none) σ a := fun m => by
        obtain ⟨j, t, e1, em, e3⟩ := m
        rcases set_get e1 with ⟨_, z⟩ | ⟨n, z⟩
        · cases z
        · exact h.sep j i t _ a n z em hi (fun z => nomatch z) e3 q
      obtain ⟨F', sf, fit', dn⟩ := hf.settle h1 h2 h4 nm
      refine ⟨F', sf, ⟨fit'.sub, fit'.keep, fit'.newf, fit'.f0, fit'.ioh, fun j t g => ?_, fun j k t u b n g1 m1 g2 m2 => ?_, fit'.pro, by rw [List.length_set]; exact h.len⟩, dn⟩
      · rcases set_get g with ⟨rfl, z⟩ | ⟨n, z⟩
        · cases z
          exact ⟨_, q, dn⟩
        · exact fit'.slot j t (by rw [List.getElem?_set_ne (Ne.symm n)]; exact z)
      · rcases set_get g1 with ⟨rfl, z⟩ | ⟨n1, z1⟩
        · cases z
          exact absurd rfl m1
        · rcases set_get g2 with ⟨rfl, z⟩ | ⟨n2, z2⟩
          · cases z
            exact absurd rfl m2
          · exact h.sep j k t u b n z1 m1 z2 m2
    · cases e
/-- a slot's own list is rewritten -/
theorem Fit.rewriteO (h : Fit A r F σ H) {i : Nat} {s : Sl} {a : Addr} {d : Dat} {u : HO} (e : r[i]? = some (some s)) (em : s.m ≠ .fz) (ev : σ[i]? = some (some (.ref a))) (o' : Own A.K F (upd H a u) a d) :
    Fit A (r.set i (some ⟨d, s.m⟩)) F σ (upd H a u) := by
  obtain ⟨v, e2, qs⟩ := h.slot i s e
  rw [ev] at e2
  cases e2
  obtain ⟨h1, h2, h3⟩ := qs.mine em
  have hne : ∀ b o, F b = some o → b ≠ a := fun b o z w => by subst w; rw [h1] at z; cases z
  refine ⟨fun b o z => ?_, fun b o z y => ?_, h.newf, h.f0, fun b z => ?_, fun j t g => ?_, fun j k t u b n g1 m1 g2 m2 => ?_, h.pro, by rw [List.length_set]; exact h.len⟩
  · rw [upd_ne (hne b o z)]
    exact h.sub b o z
  · have nb : b ≠ a := fun w => by
      subst w
      rcases h2 with ⟨w, _⟩ | w
      · rw [z] at w; cases w
      · exact y w
    rw [upd_ne nb]
    exact h.keep b o z y
  · by_cases hb : b = a
    · subst hb
      exact ⟨_, upd_same⟩
    · rw [upd_ne hb]
      exact h.ioh b z
  · rcases set_get g with ⟨rfl, z⟩ | ⟨n, z⟩
    · cases z
      refine ⟨_, ev, ?_⟩
      unfold SlotOk at qs ⊢
      split
      · rename_i z
        exact absurd z em
      · rename_i z
        have z' : s.m = .own := z
        rw [z'] at qs
        obtain ⟨b, e3, k1, k2, k3, _⟩ := qs
        cases e3
        exact ⟨a, rfl, k1, k2, k3, o'⟩
      · rename_i z
        have z' : s.m = .io := z
        rw [z'] at qs
        obtain ⟨b, e3, k1, k2, _⟩ := qs
        cases e3
        exact ⟨a, rfl, k1, k2, o'⟩
    · obtain ⟨w, e3, q3⟩ := h.slot j t z
      refine ⟨w, e3, q3.stay (Same.refl F) (fun _ _ _ fb => fb) fun b eb mb o ho => ?_⟩
      subst eb
      have nb : b ≠ a := fun w => by
        subst w
        exact h.sep j i t s b n z mb e em e3 ev
      rw [upd_ne nb]
      exact ho
  · rcases set_get g1 with ⟨rfl, z⟩ | ⟨n1, z1⟩
    · cases z
      rcases set_get g2 with ⟨rfl, _⟩ | ⟨n2, z2⟩
      · exact absurd rfl n
      · exact h.sep j k s u b n e m1 z2 m2
    · rcases set_get g2 with ⟨rfl, z⟩ | ⟨n2, z2⟩
      · cases z
        exact h.sep j k t s b n z1 m1 e m2
      · exact h.sep j k t u b n z1 m1 z2 m2
theorem Fit.rewrite (h : Fit A r F σ H) {i : Nat} {s : Sl} {a : Addr} {ds : List Dat} {xs : List V} (e : r[i]? = some (some s)) (em : s.m ≠ .fz) (ev : σ[i]? = some (some (.ref a))) (l : xs.length ≤ sizeLine) (q : DenL A.K F ds xs) :
    Fit A (r.set i (some ⟨.lst ds, s.m⟩)) F σ (upd H a (.lst xs)) := h.rewriteO e em ev ⟨xs, upd_same, l, q⟩
theorem Fit.rewriteD (h : Fit A r F σ H) {i : Nat} {s : Sl} {a : Addr} {ks vs : List Dat} {u : HO} {ws zs : List V} (e : r[i]? = some (some s)) (em : s.m ≠ .fz) (ev : σ[i]? = some (some (.ref a))) (l : DOk A.K a u ks ws zs) (q1 : DenL A.K F ks ws) (q2 : DenL A.K F vs zs) :
    Fit A (r.set i (some ⟨.dct ks vs, s.m⟩)) F σ (upd H a u) := h.rewriteO e em ev ⟨u, ws, zs, upd_same, l, q1, q2⟩
end
end Dl

/-! Z4: a tuple times a whole number. -/
namespace Dl
open PySem PySem.Spec PyProof.Rows L2
theorem tuple_mul1 (l : Addr) (items : Array Value) (n : Nat) (dd : Option Addr) (sl : Array (Option Value)) (x : Int) (u : Tok) (c0 : (decide (x < -(2 ^ 63)) || decide (x ≥ 2 ^ 63)) = false) (c1 : (items.isEmpty || x == 1) = true) :
    Meets (Builtin.«tuple.__mul__» ⟨[.ref l, .int x u], []⟩) (fun _ R s => s.heap.get? l = some { cls := .type "tuple", dict := dd, data := .seq items n, slots := sl } ∧ R (.ok (.ret (Value.ref l))) s) :=
  .of_wp fun prog w A R s h => by
    obtain ⟨hp, g, d, tk, os⟩ := s
    obtain ⟨hl, h⟩ := h
    have f1 := AutoSeq1.idx_int
    wp_walk using wpAny_loadPart' hl
    repeat (first
      | (refine wpAny_ite_false (decide_eq_false (by rw [c0]; exact Bool.false_ne_true)) ?_; wp_walk using wpAny_loadPart' hl)
      | (refine wpAny_ite_true (decide_eq_true c1) ?_; wp_walk using wpAny_loadPart' hl))
    exact ⟨_, rfl, h⟩
theorem tuple_mul0 (l : Addr) (items : Array Value) (n : Nat) (dd : Option Addr) (sl : Array (Option Value)) (x : Int) (u : Tok) (c0 : (decide (x < -(2 ^ 63)) || decide (x ≥ 2 ^ 63)) = false) (c1 : (items.isEmpty || x == 1) = false) (c2 : (decide (x ≤ 0) || items.isEmpty) = true) :
    Meets (Builtin.«tuple.__mul__» ⟨[.ref l, .int x u], []⟩) (fun _ R s => s.heap.get? l = some { cls := .type "tuple", dict := dd, data := .seq items n, slots := sl } ∧
      R (.ok (.ret (Value.ref s.heap.objs.size))) { s with heap := s.heap.push { cls := Value.type "tuple", data := Data.seq #[] }, toks := s.toks }) :=
  .of_wp fun prog w A R s h => by
    obtain ⟨hp, g, d, tk, os⟩ := s
    obtain ⟨hl, h⟩ := h
    have f1 := AutoSeq1.idx_int
    wp_walk using wpAny_loadPart' hl
    repeat (first
      | (refine wpAny_ite_false (decide_eq_false (by rw [c0]; exact Bool.false_ne_true)) ?_; wp_walk using wpAny_loadPart' hl)
      | (refine wpAny_ite_false (decide_eq_false (by rw [c1]; exact Bool.false_ne_true)) ?_; wp_walk using wpAny_loadPart' hl)
      | (refine wpAny_ite_true (decide_eq_true c2) ?_; wp_walk using wpAny_loadPart' hl))
    exact ⟨_, rfl, h⟩
section
variable {X : Cx}
theorem op_mulT : OpR X (binaryOp .Mult) (fun x y H Q => ∃ l k xs, x = V.ref l ∧ y = V.int k ∧ SqT X.K H l xs ∧ 0 ≤ k ∧ k ≤ 1000 ∧ xs.length ≤ 1000 ∧ (k = 1 → Q (.ref l) H) ∧ (k ≠ 1 → ∀ p, H p = none → Q (.ref p) (upd H p (.tup (List.replicate k.toNat xs).flatten))) ∧ xs ≠ []) := by
  intro pins s σ H x y v u Q I rx ry h
  obtain ⟨l, k, xs, rfl, rfl, hT, h0, h1, hz, q1, q2, hne⟩ := h
  by_cases hk : 2 ≤ k
  · exact op_repT pins s σ H _ _ v u Q I rx ry ⟨l, k, xs, rfl, rfl, hT, hne, hk, h1, hz, q2 (by omega)⟩
  · cases rx
    obtain ⟨t, rfl⟩ := ry
    obtain ⟨its, r, ⟨⟨cls, dd, data, sl⟩, ho, hc, n, hd⟩, hs⟩ := I.tuple hT
    simp only at hc hd
    subst hc hd
    have hle : its.length = xs.length := r.length.symm
    have hn : its ≠ [] := fun e => hne (by
      rw [e] at hle
      exact List.eq_nil_of_length_eq_zero hle.symm)
    have hi : its.toArray.isEmpty = false := by
      cases its with
      | nil => exact absurd rfl hn
      | cons a b => rfl
    have c0 : (decide (k < -(2 ^ 63)) || decide (k ≥ 2 ^ 63)) = false := by
      rw [decide_eq_false (by omega), decide_eq_false (by omega)] <;> rfl
    rcases (by omega : k = 0 ∨ k = 1) with rfl | rfl
    · refine wpAny_binaryOp_repeat_ref (T := "tuple") (U := "int") (by decide) ⟨_, ho, rfl⟩ (fun s' => typeIs_int s' 0 t) noFill_tuple_mul PySem.F.fills_int_mul PySem.F.slot_int_rmul repeat_tuple PySem.F.slot_int_index.lookup
        (call_meets PySem.F.slot_int_rmul (typeIs_int s 0 t) PySem.F.entry_int_rmul (PySem.F.args_int_rmul_2 _ _) (int_rmul_tuple 0 t l its.toArray n dd sl)
          ⟨ho, rfl, ⟨_, ho, rfl⟩, call_meets PySem.F.slot_tuple_mul ⟨_, ho, rfl⟩ PySem.F.entry_tuple_mul (PySem.F.args_tuple_mul_2 _ _) (tuple_mul0 l its.toArray n dd sl 0 t c0 (by rw [hi]; rfl) rfl) ⟨ho, ?_⟩⟩)
      refine ⟨.ref s.heap.objs.size, _, I.laid (t' := s.toks) (o := .tup []) (fun b ob q => Heap.get?_push_of_some _ q) (Nat.le_refl _) ?_, rfl, q2 (by decide) _ (I.hok.fresh (Nat.le_refl _))⟩
      exact ⟨by simp, [], .nil, IsTup.new _ _⟩
    · refine wpAny_binaryOp_repeat_ref (T := "tuple") (U := "int") (by decide) ⟨_, ho, rfl⟩ (fun s' => typeIs_int s' 1 t) noFill_tuple_mul PySem.F.fills_int_mul PySem.F.slot_int_rmul repeat_tuple PySem.F.slot_int_index.lookup
        (call_meets PySem.F.slot_int_rmul (typeIs_int s 1 t) PySem.F.entry_int_rmul (PySem.F.args_int_rmul_2 _ _) (int_rmul_tuple 1 t l its.toArray n dd sl)
          ⟨ho, rfl, ⟨_, ho, rfl⟩, call_meets PySem.F.slot_tuple_mul ⟨_, ho, rfl⟩ PySem.F.entry_tuple_mul (PySem.F.args_tuple_mul_2 _ _) (tuple_mul1 l its.toArray n dd sl 1 t c0 (by rw [hi]; rfl)) ⟨ho, ?_⟩⟩)
      exact ⟨.ref l, H, I, rfl, q1 rfl⟩
end
end Dl

/-! D1b: dicts as plain data (two lists), and the model's rules for them. -/
namespace Dl
open PySem PySem.Spec PyProof.Rows L2

/-- equal as keys -/
def eqK (a b : Dat) : Bool := decide (nkey a = nkey b)
def hasK (k : Dat) (ks : List Dat) : Bool := ks.any fun x => eqK x k
def getV (k : Dat) : List Dat → List Dat → Option Dat
  | x :: ks, v :: vs => if eqK x k = true then some v else getV k ks vs
  | _, _ => none
def putV (k v : Dat) : List Dat → List Dat → List Dat
  | x :: ks, y :: vs => (if eqK x k = true then v else y) :: putV k v ks vs
  | _, _ => []
/-- a key that may be asked of a dict with the keys ks -/
def okey (ks : List Dat) (k : Dat) : Bool := (flatK k && ks.all flatK) || (tupK k && ks.all tupK)
/-- d[k] = v -/
def putD (k v : Dat) (ks vs : List Dat) : Dat := if hasK k ks = true then .dct ks (putV k v ks vs) else .dct (ks ++ [k]) (vs ++ [v])

section
variable {K : Kw} {F H : Hp}
theorem Den.key {d : Dat} {v : V} (f : flatK d = true) (h : Den K F d v) : v = kV (toK d) := by
  cases d with
  | int i => exact h
  | str x => exact h.1
  | _ => cases f
theorem Den.ofKey {d : Dat} {k : Key} (h : Den K F d (kV k)) : flatK d = true ∧ toK d = k := by
  cases d with
  | int i =>
    cases k with
    | inl j => have h : V.int j = V.int i := h; cases h; exact ⟨rfl, rfl⟩
    | inr y => have h : V.str y = V.int i := h; cases h
  | str x =>
    cases k with
    | inl j => have h : V.int j = V.str x ∧ _ := h; cases h.1
    | inr y => have h : V.str y = V.str x ∧ _ := h; cases h.1; exact ⟨rfl, rfl⟩
  | non => cases k with
    | inl j => have h : V.int j = V.non := h; cases h
    | inr j => have h : V.str j = V.non := h; cases h
  | bl b => cases k with
    | inl j => have h : V.int j = V.bl b := h; cases h
    | inr j => have h : V.str j = V.bl b := h; cases h
  | tup ds => obtain ⟨a, xs, e, _⟩ := h; cases k with
    | inl j => have e : V.int j = V.ref a := e; cases e
    | inr j => have e : V.str j = V.ref a := e; cases e
  | lst ds => obtain ⟨a, xs, e, _⟩ := h; cases k with
    | inl j => have e : V.int j = V.ref a := e; cases e
    | inr j => have e : V.str j = V.ref a := e; cases e
  | dct ks vs => obtain ⟨a, xs, _, _, e, _⟩ := h; cases k with
    | inl j => have e : V.int j = V.ref a := e; cases e
    | inr j => have e : V.str j = V.ref a := e; cases e
  | fn c ds => exact h.elim
theorem eqK_flat {a b : Dat} (ha : flatK a = true) (hb : flatK b = true) : eqK a b = decide (toK a = toK b) := by
  unfold eqK
  cases a with
  | int i =>
    cases b with
    | int j => simp [nkey, toK]
    | str y => simp [nkey, toK]
    | _ => cases hb
  | str x =>
    cases b with
    | int j => simp [nkey, toK]
    | str y => simp [nkey, toK]
    | _ => cases hb
  | _ => cases ha
theorem keys_flat : ∀ {ks : List Dat} {ps : List (Key × V)}, DenL K F ks (ps.map fun p => kV p.1) → ks.all flatK = true
  | [], ps, _ => rfl
  | k :: ks, [], ⟨v, vs, e, _, _⟩ => by cases e
  | k :: ks, p :: ps, ⟨v, vs, e, h, r⟩ => by
    cases e
    rw [List.all_cons, (Den.ofKey h).1, keys_flat r]
    rfl
/-- looking a flat key up -/
theorem get_flat {k : Dat} (hk : flatK k = true) : ∀ {ks vs : List Dat} {ps : List (Key × V)}, DenL K F ks (ps.map fun p => kV p.1) → DenL K F vs (ps.map (·.2)) →
    hasK k ks = (valV ps (toK k)).isSome ∧ (∀ d, getV k ks vs = some d → ∃ x, valV ps (toK k) = some x ∧ Den K F d x)
  | [], vs, [], _, _ => ⟨rfl, fun d h => by unfold getV at h; cases h⟩
  | [], vs, p :: ps, h, _ => by cases h
  | k' :: ks, vs, [], ⟨v, ws, e, _, _⟩, _ => by cases e
  | k' :: ks, [], p :: ps, _, h => by cases h
  | k' :: ks, y :: vs, p :: ps, ⟨v, ws, e, h, r⟩, ⟨v2, ws2, e2, h2, r2⟩ => by
    cases e
    cases e2
    obtain ⟨f1, f2⟩ := Den.ofKey h
    obtain ⟨i1, i2⟩ := get_flat hk r r2
    have eq : eqK k' k = decide (p.1 = toK k) := by rw [eqK_flat f1 hk, f2]
    unfold hasK at i1 ⊢
    rw [List.any_cons, eq, i1]
    unfold getV
    rw [eq]
    by_cases q : p.1 = toK k
    · rw [decide_eq_true q, valV_pos q]
      refine ⟨rfl, fun d h => ?_⟩
      rw [if_pos rfl] at h
      cases h
      exact ⟨_, rfl, h2⟩
    · rw [decide_eq_false q, valV_neg q]
      refine ⟨by rw [Bool.false_or], fun d h => ?_⟩
      rw [if_neg Bool.false_ne_true] at h
      exact i2 d h
theorem rep_flat {k v : Dat} {x : V} (hk : flatK k = true) (hv : Den K F v x) : ∀ {ks vs : List Dat} {ps : List (Key × V)}, DenL K F ks (ps.map fun p => kV p.1) → DenL K F vs (ps.map (·.2)) →
    DenL K F ks ((ps.map fun kv => if kv.1 = toK k then (kv.1, x) else kv).map fun p => kV p.1) ∧ DenL K F (putV k v ks vs) ((ps.map fun kv => if kv.1 = toK k then (kv.1, x) else kv).map (·.2))
  | [], vs, [], _, _ => ⟨rfl, by unfold putV; rfl⟩
  | [], vs, p :: ps, h, _ => by cases h
  | k' :: ks, vs, [], ⟨v, ws, e, _, _⟩, _ => by cases e
  | k' :: ks, [], p :: ps, _, h => by cases h
  | k' :: ks, y :: vs, p :: ps, ⟨v1, ws, e, h, r⟩, ⟨v2, ws2, e2, h2, r2⟩ => by
    cases e
    cases e2
    obtain ⟨f1, f2⟩ := Den.ofKey h
    obtain ⟨i1, i2⟩ := rep_flat hk hv r r2
    have eq : eqK k' k = decide (p.1 = toK k) := by rw [eqK_flat f1 hk, f2]
    unfold putV
    rw [eq]
    by_cases q : p.1 = toK k
    · rw [decide_eq_true q, if_pos rfl, List.map_cons, if_pos q]
      exact ⟨⟨_, _, rfl, h, i1⟩, ⟨_, _, rfl, hv, i2⟩⟩
    · rw [decide_eq_false q, if_neg Bool.false_ne_true, List.map_cons, if_neg q]
      exact ⟨⟨_, _, rfl, h, i1⟩, ⟨_, _, rfl, h2, i2⟩⟩

/-! ### tuples for keys -/
/-- the value under a key -/
def valN (ps : List (NestedKey × Addr × V)) (k : NestedKey) : Option V := (ps.find? fun p => decide (p.1 = k)).map (·.2.2)
def putN (ps : List (NestedKey × Addr × V)) (k : NestedKey) (b : Addr) (x : V) : List (NestedKey × Addr × V) :=
  if (valN ps k).isSome = true then ps.map (fun p => if p.1 = k then (p.1, p.2.1, x) else p) else ps ++ [(k, b, x)]
theorem valN_pos {p : NestedKey × Addr × V} {r : List (NestedKey × Addr × V)} {k : NestedKey} (e : p.1 = k) : valN (p :: r) k = some p.2.2 := by simp [valN, List.find?_cons, e]
theorem valN_neg {p : NestedKey × Addr × V} {r : List (NestedKey × Addr × V)} {k : NestedKey} (e : ¬ p.1 = k) : valN (p :: r) k = valN r k := by simp [valN, List.find?_cons, e]
theorem putN_len (ps : List (NestedKey × Addr × V)) (k : NestedKey) (b : Addr) (x : V) : (putN ps k b x).length ≤ ps.length + 1 := by
  unfold putN
  split
  · rw [List.length_map]; omega
  · rw [List.length_append, List.length_singleton]; exact Nat.le_refl _
theorem putN_ne (ps : List (NestedKey × Addr × V)) (k : NestedKey) (b : Addr) (x : V) : putN ps k b x ≠ [] := by
  unfold putN
  split
  · rename_i h
    cases ps with
    | nil => simp [valN] at h
    | cons p ps => simp
  · simp
theorem get_nest {k : Dat} : ∀ {ks vs : List Dat} {ps : List (NestedKey × Addr × V)}, nkeys ks = ps.map (·.1) → DenL K F vs (ps.map (·.2.2)) →
    hasK k ks = (valN ps (nkey k)).isSome ∧ (∀ d, getV k ks vs = some d → ∃ x, valN ps (nkey k) = some x ∧ Den K F d x)
  | [], vs, [], _, _ => ⟨rfl, fun d h => by unfold getV at h; cases h⟩
  | [], vs, p :: ps, h, _ => by cases h
  | k' :: ks, vs, [], h, _ => by cases h
  | k' :: ks, [], p :: ps, _, h => by cases h
  | k' :: ks, y :: vs, p :: ps, h, ⟨v2, ws2, e2, h2, r2⟩ => by
    cases e2
    have h' : nkey k' :: nkeys ks = p.1 :: ps.map (·.1) := h
    injection h' with ha hb
    obtain ⟨i1, i2⟩ := get_nest (k := k) hb r2
    have eq : eqK k' k = decide (p.1 = nkey k) := by unfold eqK; rw [ha]
    unfold hasK at i1 ⊢
    rw [List.any_cons, eq, i1]
    unfold getV
    rw [eq]
    by_cases q : p.1 = nkey k
    · rw [decide_eq_true q, valN_pos q]
      refine ⟨rfl, fun d h => ?_⟩
      rw [if_pos rfl] at h
      cases h
      exact ⟨_, rfl, h2⟩
    · rw [decide_eq_false q, valN_neg q]
      refine ⟨by rw [Bool.false_or], fun d h => ?_⟩
      rw [if_neg Bool.false_ne_true] at h
      exact i2 d h
theorem rep_nest {k v : Dat} {x : V} (hv : Den K F v x) : ∀ {ks vs : List Dat} {ps : List (NestedKey × Addr × V)}, nkeys ks = ps.map (·.1) → DenL K F ks (ps.map fun p => V.ref p.2.1) → DenL K F vs (ps.map (·.2.2)) →
    nkeys ks = (ps.map fun p => if p.1 = nkey k then (p.1, p.2.1, x) else p).map (·.1) ∧ DenL K F ks ((ps.map fun p => if p.1 = nkey k then (p.1, p.2.1, x) else p).map fun p => V.ref p.2.1) ∧ DenL K F (putV k v ks vs) ((ps.map fun p => if p.1 = nkey k then (p.1, p.2.1, x) else p).map (·.2.2))
  | [], vs, [], _, _, _ => ⟨rfl, rfl, by unfold putV; rfl⟩
  | [], vs, p :: ps, h, _, _ => by cases h
  | k' :: ks, vs, [], h, _, _ => by cases h
  | k' :: ks, [], p :: ps, _, _, h => by cases h
  | k' :: ks, y :: vs, p :: ps, h, ⟨v1, ws1, e1, h1, r1⟩, ⟨v2, ws2, e2, h2, r2⟩ => by
    cases e1
    cases e2
    have h' : nkey k' :: nkeys ks = p.1 :: ps.map (·.1) := h
    injection h' with ha hb
    obtain ⟨i0, i1, i2⟩ := rep_nest (k := k) hv hb r1 r2
    have eq : eqK k' k = decide (p.1 = nkey k) := by unfold eqK; rw [ha]
    unfold putV
    rw [eq]
    show nkey k' :: nkeys ks = _ ∧ _
    by_cases q : p.1 = nkey k
    · rw [decide_eq_true q, if_pos rfl, List.map_cons, if_pos q, i0, ha]
      exact ⟨rfl, ⟨_, _, rfl, h1, i1⟩, ⟨_, _, rfl, hv, i2⟩⟩
    · rw [decide_eq_false q, if_neg Bool.false_ne_true, List.map_cons, if_neg q, i0, ha]
      exact ⟨rfl, ⟨_, _, rfl, h1, i1⟩, ⟨_, _, rfl, h2, i2⟩⟩
theorem nkeys_app : ∀ (a b : List Dat), nkeys (a ++ b) = nkeys a ++ nkeys b
  | [], _ => rfl
  | x :: a, b => by
    show nkey x :: nkeys (a ++ b) = _
    rw [nkeys_app a b]
    rfl
theorem nkeys_len : ∀ (a : List Dat), (nkeys a).length = a.length
  | [] => rfl
  | x :: a => by
    show (nkeys a).length + 1 = _
    rw [nkeys_len a]
    rfl
end

section
variable {X : Cx} {pins : List (Addr × Obj)} {σ : L2.St} {H F : Hp} {s : Shared} {a : Addr}
mutual
theorem den_nk (I : Inv X pins σ H s) (sm : Same F H) : ∀ (n : Nat) (d : Dat) {v : V} {u : Value}, nokey n d = true → Den X.kw F d v → RelV v u → NestedIs s.heap (nkey d) u ∧ (nkey d).depth ≤ n
  | n, .non, v, u, _, h, r => by
    cases h
    have r : u = Value.none := r
    subst r
    exact ⟨.none, Nat.zero_le _⟩
  | n, .bl b, v, u, _, h, r => by
    cases h
    have r : u = Value.bool b := r
    subst r
    exact ⟨.bool rfl, Nat.zero_le _⟩
  | n, .int i, v, u, _, h, r => by
    cases h
    obtain ⟨t, rfl⟩ := r
    exact ⟨.int i t, Nat.zero_le _⟩
  | n, .str x, v, u, _, h, r => by
    cases h.1
    obtain ⟨t, rfl⟩ := r
    exact ⟨.text x t, Nat.zero_le _⟩
  | 0, .tup ds, v, u, f, h, r => by cases f
  | n + 1, .tup ds, v, u, f, h, r => by
    obtain ⟨b, xs, rfl, hx, lx, q⟩ := h
    have r : u = Value.ref b := r
    subst r
    obtain ⟨its, rv, ⟨o, h1, h2, m, h3⟩, _⟩ := I.tuple (Same.seqT sm hx)
    obtain ⟨g1, g2⟩ := den_nks I sm n ds f q rv
    exact ⟨.tup h1 h2 h3 (by simpa using g1), Nat.succ_le_succ g2⟩
  | n, .lst ds, v, u, f, h, r => by cases n <;> cases f
  | n, .dct ks vs, v, u, f, h, r => by cases n <;> cases f
  | n, .fn c ds, v, u, f, h, r => by cases n <;> cases f
theorem den_nks (I : Inv X pins σ H s) (sm : Same F H) : ∀ (n : Nat) (ds : List Dat) {vs : List V} {us : List Value}, nokeys n ds = true → DenL X.kw F ds vs → Vals vs us → NestedAll s.heap (nkeys ds) us ∧ NestedKey.depthAll (nkeys ds) ≤ n
  | n, [], vs, us, _, h, r => by
    cases h
    cases r
    exact ⟨.nil, Nat.zero_le _⟩
  | n, d :: ds, vs, us, f, ⟨v, ws, e, h, t⟩, r => by
    cases e
    cases r with
    | cons r1 r2 =>
      have f' : (nokey n d && nokeys n ds) = true := f
      rw [Bool.and_eq_true] at f'
      obtain ⟨g1, g2⟩ := den_nk I sm n d f'.1 h r1
      obtain ⟨g3, g4⟩ := den_nks I sm n ds f'.2 t r2
      exact ⟨.cons g1 g3, Nat.max_le.mpr ⟨g2, g4⟩⟩
end
theorem tupK_is {d : Dat} (h : tupK d = true) : ∃ ds, d = .tup ds := by
  cases d with
  | tup ds => exact ⟨ds, rfl⟩
  | _ => cases h
theorem tupK_nokey {d : Dat} (h : tupK d = true) : nokey 8 d = true := by
  obtain ⟨ds, rfl⟩ := tupK_is h
  exact h
/-- a tuple as a key -/
theorem key_nest (I : Inv X pins σ H s) (sm : Same F H) {d : Dat} {v : V} {u : Value} (h : tupK d = true) (hd : Den X.kw F d v) (r : RelV v u) : ∃ b, v = .ref b ∧ u = .ref b ∧ (nestedKind X.prog X.w).is s.heap (nkey d) b := by
  obtain ⟨ds, rfl⟩ := tupK_is h
  obtain ⟨g1, g2⟩ := den_nk I sm 8 _ (tupK_nokey h) hd r
  obtain ⟨b, xs, rfl, _⟩ := hd
  have r : u = Value.ref b := r
  subst r
  exact ⟨b, rfl, rfl, g1, g2⟩
theorem flat_nil {ks : List Dat} (h1 : ks.all flatK = true) (h2 : ks.all tupK = true) : ks = [] := by
  cases ks with
  | nil => rfl
  | cons k ks =>
    rw [List.all_cons, Bool.and_eq_true] at h1 h2
    obtain ⟨ds, rfl⟩ := tupK_is h2.1
    cases h1.1
abbrev PN : NestedKey × Addr × V → NestedKey × Addr × Value → Prop := fun p q => p.1 = q.1 ∧ p.2.1 = q.2.1 ∧ RelV p.2.2 q.2.2
theorem PN.val {ps : List (NestedKey × Addr × V)} {xs : List (NestedKey × Addr × Value)} (r : Paired PN ps xs) (k : NestedKey) : RelO (valN ps k) ((atKey xs k).map (·.2)) := by
  induction r with
  | nil => exact True.intro
  | @cons p q ps qs h t ih =>
    obtain ⟨h1, _, h2⟩ := h
    by_cases e : p.1 = k
    · have e' : q.1 = k := h1.symm.trans e
      have b : atKey (q :: qs) k = some q.2 := by simp [atKey, List.find?_cons, e']
      rw [valN_pos e, b]; exact h2
    · have e' : ¬ q.1 = k := fun z => e (h1.trans z)
      have b : atKey (q :: qs) k = atKey qs k := by simp [atKey, List.find?_cons, e']
      rw [valN_neg e, b]; exact ih
theorem PN.put {ps : List (NestedKey × Addr × V)} {xs : List (NestedKey × Addr × Value)} (r : Paired PN ps xs) (k : NestedKey) (b : Addr) {y : V} {u : Value} (ry : RelV y u) : Paired PN (putN ps k b y) (storedH xs k b u) := by
  have e := (PN.val r k).isSome_eq
  rw [Option.isSome_map] at e
  unfold putN storedH
  rw [e]
  by_cases q : (atKey xs k).isSome = true
  · rw [if_pos q, if_pos q]
    clear e q
    induction r with
    | nil => exact .nil
    | @cons p q ps qs h t ih =>
      rw [List.map_cons, List.map_cons]
      refine .cons ?_ ih
      obtain ⟨h1, h2, h3⟩ := h
      unfold putAt
      by_cases e : p.1 = k
      · rw [if_pos e, if_pos (h1.symm.trans e)]; exact ⟨h1, h2, ry⟩
      · rw [if_neg e, if_neg (fun z => e (h1.trans z))]; exact ⟨h1, h2, h3⟩
  · rw [if_neg q, if_neg q]; exact Paired.snoc r ⟨rfl, rfl, ry⟩
theorem paired_mem {α β : Type} {R : α → β → Prop} {l : List α} {m : List β} (r : Paired R l m) {y : β} (h : y ∈ m) : ∃ x ∈ l, R x y := by
  induction r with
  | nil => cases h
  | @cons p q ps qs h1 t ih =>
    rcases List.mem_cons.mp h with rfl | h
    · exact ⟨p, List.mem_cons_self, h1⟩
    · obtain ⟨x, hx, hr⟩ := ih h
      exact ⟨x, List.mem_cons_of_mem _ hx, hr⟩
theorem keys_at {K : Kw} : ∀ {ks : List Dat} {ps : List (NestedKey × Addr × V)}, nkeys ks = ps.map (·.1) → DenL K F ks (ps.map fun p => V.ref p.2.1) → ks.all tupK = true → ∀ p ∈ ps, ∃ d, tupK d = true ∧ nkey d = p.1 ∧ Den K F d (.ref p.2.1)
  | [], [], _, _, _, p, hp => by cases hp
  | [], _ :: _, h, _, _, _, _ => by cases h
  | _ :: _, [], h, _, _, _, _ => by cases h
  | k :: ks, p' :: ps, h, ⟨v, vs, e, d1, d2⟩, t, p, hp => by
    cases e
    have h' : nkey k :: nkeys ks = p'.1 :: ps.map (·.1) := h
    injection h' with ha hb
    rw [List.all_cons, Bool.and_eq_true] at t
    rcases List.mem_cons.mp hp with rfl | hp
    · exact ⟨k, t.1, ha, d1⟩
    · exact keys_at hb d2 t.2 p hp
theorem dn_at (I : Inv X pins σ H s) (sm : Same F H) {ps : List (NestedKey × Addr × V)} {ks : List Dat} (ha : H a = some (DN X.w a ps)) (hn : nkeys ks = ps.map (·.1)) (hk : DenL X.kw F ks (ps.map fun p => V.ref p.2.1)) (ht : ks.all tupK = true) :
    ps.length ≤ sizeLine ∧ (a == sysModules) = false ∧ ∃ xs, Paired PN ps xs ∧ s.heap.DictOfH (nestedKind X.prog X.w) a xs := by
  obtain ⟨l, hs, xs, pr, o, es, ep, h1, h2, h3, h4, h5⟩ := (I.hok a _ ha).1
  refine ⟨l, hs, xs, pr, o, es, ep, h1, h2, h3, h4, fun x hx => ?_, h5⟩
  obtain ⟨p, hp, r1, r2, _⟩ := paired_mem pr hx
  obtain ⟨d, t, e, dn⟩ := keys_at hn hk ht p hp
  obtain ⟨b, e1, _, e3⟩ := key_nest I sm (u := .ref p.2.1) t dn rfl
  cases e1
  rw [← r1, ← r2, ← e]
  exact e3
theorem dn_new {P : Program} {w : World} {H' : Hp} {h' : Heap} {ps : List (NestedKey × Addr × V)} {xs : List (NestedKey × Addr × Value)} (l : ps.length ≤ sizeLine) (hs : (a == sysModules) = false) (pr : Paired PN ps xs) (dd : h'.DictOfH (nestedKind P w) a xs) : ObjOk P w H' h' a (DN w a ps) := by
  obtain ⟨o, es, ep, h1, h2, h3, h4, _, h5⟩ := dd
  refine ⟨⟨l, hs, xs, pr, o, es, ep, h1, h2, h3, h4, h5⟩, ⟨o, h1⟩, fun g1 g2 q k => ?_⟩
  obtain ⟨l, hs, xs, pr, o, es, ep, h1, h2, h3, h4, h5⟩ := q
  exact ⟨l, hs, xs, pr, o, es, ep, k o h1, h2, h3, h4, h5⟩
/-- an empty dict may get tuples for keys -/
theorem dk_nil (I : Inv X pins σ H s) (ha : H a = some (.dK [])) : (a == sysModules) = false ∧ s.heap.DictOfH (nestedKind X.prog X.w) a [] := by
  obtain ⟨_, hs, vs, rel, dd⟩ := dk_of I.hok ha
  cases rel
  obtain ⟨o, es, ep, h1, h2, h3, h4⟩ := dd
  refine ⟨hs, o, es, ep, h1, h2, h3, ?_, (fun x hx => nomatch hx), List.nodup_nil⟩
  have h4' := h4.2.1.length
  have : es.toList = [] := List.eq_nil_of_length_eq_zero h4'
  rw [this]
  rfl
/-- a dict and a key, as the model sees them -/
theorem seen_dct (I : Inv X pins σ H s) (sm : Same F H) {ks vs : List Dat} {k : Dat} {x y : V} {u : Value} (h : Seen X.kw F H (.dct ks vs) x) (hk : Seen X.kw F H k y) (ok : okey ks k = true) (ry : RelV y u) : ∃ a, x = .ref a ∧ Mut (H a) ∧
    ((∃ ps, H a = some (.dK ps) ∧ ps.length ≤ sizeLine ∧ DenL X.kw F ks (ps.map fun p => kV p.1) ∧ DenL X.kw F vs (ps.map (·.2)) ∧ flatK k = true ∧ y = kV (toK k)) ∨
     (∃ ps xs b, y = .ref b ∧ u = .ref b ∧ (nestedKind X.prog X.w).is s.heap (nkey k) b ∧ Paired PN ps xs ∧ s.heap.DictOfH (nestedKind X.prog X.w) a xs ∧ (a == sysModules) = false ∧ ps.length ≤ sizeLine ∧
       nkeys ks = ps.map (·.1) ∧ DenL X.kw F ks (ps.map fun p => V.ref p.2.1) ∧ ks.all tupK = true ∧ tupK k = true ∧ DenL X.kw F vs (ps.map (·.2.2)) ∧ Den X.kw F k y)) := by
  obtain ⟨a, w, ws, zs, rfl, ha, ⟨hl, hd⟩, q1, q2⟩ := h
  refine ⟨a, rfl, ?_⟩
  unfold okey at ok
  rw [Bool.or_eq_true, Bool.and_eq_true, Bool.and_eq_true] at ok
  have hkd : flatK k = true ∨ tupK k = true → Den X.kw F k y := fun z => by
    cases k with
    | lst ds => rcases z with z | z <;> cases z
    | dct a b => rcases z with z | z <;> cases z
    | _ => exact hk
  rcases hd with ⟨ps, rfl, rfl, rfl⟩ | ⟨ps, rfl, rfl, rfl, hn, ht, hne⟩
  · refine ⟨by rw [ha]; exact True.intro, ?_⟩
    rcases ok with ⟨o1, o2⟩ | ⟨o1, o2⟩
    · exact .inl ⟨ps, ha, by rw [List.length_map] at hl; exact hl, q1, q2, o1, Den.key o1 (hkd (.inl o1))⟩
    · have e := flat_nil (keys_flat q1) o2
      subst e
      cases ps with
      | cons p ps => cases q1
      | nil =>
        obtain ⟨hs, dd⟩ := dk_nil I ha
        obtain ⟨b, e1, e2, e3⟩ := key_nest I sm o1 (hkd (.inr o1)) ry
        exact .inr ⟨[], [], b, e1, e2, e3, .nil, dd, hs, Nat.zero_le _, rfl, rfl, rfl, o1, q2, hkd (.inr o1)⟩
  · refine ⟨by rw [ha]; exact True.intro, ?_⟩
    rcases ok with ⟨o1, o2⟩ | ⟨o1, o2⟩
    · have e := flat_nil o2 ht
      subst e
      cases ps with
      | nil => exact absurd rfl hne
      | cons p ps => cases q1
    · obtain ⟨hz, hs, xs, pr, dd⟩ := dn_at I sm ha hn q1 ht
      obtain ⟨b, e1, e2, e3⟩ := key_nest I sm o1 (hkd (.inr o1)) ry
      exact .inr ⟨ps, xs, b, e1, e2, e3, pr, dd, hs, hz, hn, q1, ht, o1, q2, hkd (.inr o1)⟩
theorem room8 {A : Around} (hu : A.units + 64 < cLine) : (nestedKind X.prog X.w).room A.in1 := by
  show A.units + 1 + 8 < cLine
  omega
/-- d[k] -/
theorem d_at (hu : X.A.units + 64 < cLine) (I : Inv X pins σ H s) (sm : Same F H) {ks vs : List Dat} {k d : Dat} {x y : V} {v u : Value} {Q : Value → Shared → Prop} {E : Value → Shared → Prop} (h : Seen X.kw F H (.dct ks vs) x) (hk : Seen X.kw F H k y) (ok : okey ks k = true) (rx : RelV x v) (ry : RelV y u)
    (hg : getV k ks vs = some d) (q : ∀ z w' s', Inv X pins σ H s' → RelV z w' → Den X.kw F d z → Q w' s') : wpAny (model X.prog X.w) X.A (getItem v u) Q E s := by
  obtain ⟨a, rfl, mu, hc⟩ := seen_dct I sm h hk ok ry
  obtain rfl : v = Value.ref a := rx
  rcases hc with ⟨ps, ha, hl, q1, q2, fk, rfl⟩ | ⟨ps, xs, b, rfl, rfl, hkey, pr, dd, hs, hz, hn, q1, ht, tk, q2, _⟩
  · obtain ⟨z, hz, dz⟩ := (get_flat fk q1 q2).2 d hg
    exact d_getItem (by omega) I (by rw [← hz]; exact DGet.k ha) ry fun w' s' I' r' => q z w' s' I' r' dz
  · obtain ⟨z, hz, dz⟩ := (get_nest hn q2).2 d hg
    obtain ⟨w', hw, rw'⟩ := RelO.some_of (v := z) (o := (atKey xs (nkey k)).map (·.2)) (by rw [← hz]; exact PN.val pr _)
    obtain ⟨p, hp, hp2⟩ := Option.map_eq_some_iff.mp hw
    refine wpAny_getItem_heap (room8 hu) hkey dd hp ?_
    rw [hp2]
    exact q z w' _ (I.tok _) rw' dz
theorem d_in_ok (hu : X.A.units + 64 < cLine) (I : Inv X pins σ H s) (sm : Same F H) {ks vs : List Dat} {k : Dat} {x y : V} {v u : Value} {Q : Value → Shared → Prop} {E : Value → Shared → Prop} (h : Seen X.kw F H (.dct ks vs) x) (hk : Seen X.kw F H k y) (ok : okey ks k = true) (rx : RelV x v) (ry : RelV y u)
    (q : ∀ s', Inv X pins σ H s' → Q (.bool (hasK k ks)) s') : wpAny (model X.prog X.w) X.A (compareOp .In u v) Q E s := by
  obtain ⟨a, rfl, mu, hc⟩ := seen_dct I sm h hk ok ry
  obtain rfl : v = Value.ref a := rx
  rcases hc with ⟨ps, ha, hl, q1, q2, fk, rfl⟩ | ⟨ps, xs, b, rfl, rfl, hkey, pr, dd, hs, hz, hn, q1, ht, tk, q2, _⟩
  · rw [(get_flat fk q1 q2).1] at q
    exact d_in (by omega) I (DGet.k ha) ry q
  · rw [(get_nest (k := k) hn q2).1, (PN.val pr _).isSome_eq, Option.isSome_map] at q
    exact wpAny_in_heap (room8 hu) hkey hs dd (q _ (I.tok _))
theorem d_notIn_ok (hu : X.A.units + 64 < cLine) (I : Inv X pins σ H s) (sm : Same F H) {ks vs : List Dat} {k : Dat} {x y : V} {v u : Value} {Q : Value → Shared → Prop} {E : Value → Shared → Prop} (h : Seen X.kw F H (.dct ks vs) x) (hk : Seen X.kw F H k y) (ok : okey ks k = true) (rx : RelV x v) (ry : RelV y u)
    (q : ∀ s', Inv X pins σ H s' → Q (.bool (!hasK k ks)) s') : wpAny (model X.prog X.w) X.A (compareOp .NotIn u v) Q E s := by
  obtain ⟨a, rfl, mu, hc⟩ := seen_dct I sm h hk ok ry
  obtain rfl : v = Value.ref a := rx
  rcases hc with ⟨ps, ha, hl, q1, q2, fk, rfl⟩ | ⟨ps, xs, b, rfl, rfl, hkey, pr, dd, hs, hz, hn, q1, ht, tk, q2, _⟩
  · rw [(get_flat fk q1 q2).1] at q
    exact d_notIn (by omega) I (DGet.k ha) ry q
  · rw [(get_nest (k := k) hn q2).1, (PN.val pr _).isSome_eq, Option.isSome_map] at q
    exact wpAny_notIn_heap (room8 hu) hkey hs dd (q _ (I.tok _))
/-- what is behind d[k] = z -/
structure Put (K : Kw) (F H : Hp) (a : Addr) (d : Dat) (H' : Hp) : Prop where
  ex : ∃ u, H' = upd H a u ∧ Own K F H' a d
theorem putD_flat {K : Kw} {k v : Dat} {x : V} {ks vs : List Dat} {ps : List (Key × V)} (hk : flatK k = true) (dk : Den K F k (kV (toK k))) (hv : Den K F v x) (hl : ps.length < sizeLine) (q1 : DenL K F ks (ps.map fun p => kV p.1)) (q2 : DenL K F vs (ps.map (·.2))) :
    Own K F (upd H a (.dK (putK ps (toK k) x))) a (putD k v ks vs) := by
  have e := (get_flat hk q1 q2).1
  have hz : (putK ps (toK k) x).length ≤ sizeLine := by have := length_putK ps (toK k) x; omega
  unfold putD
  rw [e, ← valV_any]
  unfold putK at hz ⊢
  by_cases z : (ps.any fun kv => decide (kv.1 = toK k)) = true
  · rw [if_pos z] at hz ⊢
    rw [if_pos z]
    obtain ⟨r1, r2⟩ := rep_flat hk hv q1 q2
    exact ⟨_, _, _, upd_same, ⟨by rw [List.length_map]; exact hz, .inl ⟨_, rfl, rfl, rfl⟩⟩, r1, r2⟩
  · rw [if_neg z] at hz ⊢
    rw [if_neg z]
    refine ⟨_, _, _, upd_same, ⟨by rw [List.length_map]; exact hz, .inl ⟨_, rfl, rfl, rfl⟩⟩, ?_, ?_⟩
    · rw [List.map_append]
      exact DenL.app q1 (DenL.one dk)
    · rw [List.map_append]
      exact DenL.app q2 (DenL.one hv)
theorem putD_nest {K : Kw} {k v : Dat} {x : V} {b : Addr} {ks vs : List Dat} {ps : List (NestedKey × Addr × V)} (hk : tupK k = true) (dk : Den K F k (.ref b)) (hv : Den K F v x) (hl : ps.length < sizeLine) (hn : nkeys ks = ps.map (·.1)) (ht : ks.all tupK = true) (q1 : DenL K F ks (ps.map fun p => V.ref p.2.1)) (q2 : DenL K F vs (ps.map (·.2.2))) :
    Own K F (upd H a (DN K.w a (putN ps (nkey k) b x))) a (putD k v ks vs) := by
  have e := (get_nest (k := k) hn q2).1
  have hz : (putN ps (nkey k) b x).length ≤ sizeLine := by have := putN_len ps (nkey k) b x; omega
  have hne := putN_ne ps (nkey k) b x
  unfold putD
  rw [e]
  unfold putN at hz hne ⊢
  by_cases z : (valN ps (nkey k)).isSome = true
  · rw [if_pos z] at hz hne ⊢
    rw [if_pos z]
    obtain ⟨r0, r1, r2⟩ := rep_nest (k := k) hv hn q1 q2
    exact ⟨_, _, _, upd_same, ⟨by rw [List.length_map]; exact hz, .inr ⟨_, rfl, rfl, rfl, r0, ht, hne⟩⟩, r1, r2⟩
  · rw [if_neg z] at hz hne ⊢
    rw [if_neg z]
    refine ⟨_, _, _, upd_same, ⟨by rw [List.length_map]; exact hz, .inr ⟨_, rfl, rfl, rfl, ?_, ?_, hne⟩⟩, ?_, ?_⟩
    · rw [nkeys_app, hn, List.map_append]
      rfl
    · rw [List.all_append, ht, List.all_cons, hk]
      rfl
    · rw [List.map_append]
      exact DenL.app q1 (DenL.one dk)
    · rw [List.map_append]
      exact DenL.app q2 (DenL.one hv)
/-- d[k] = z -/
theorem d_put_ok (hu : X.A.units + 64 < cLine) (I : Inv X pins σ H s) (sm : Same F H) {ks vs : List Dat} {k d : Dat} {y z : V} {u r : Value} {Q : Unit → Shared → Prop} {E : Value → Shared → Prop} (h : Seen X.kw F H (.dct ks vs) (.ref a)) (hk : Seen X.kw F H k y) (ok : okey ks k = true) (ry : RelV y u) (rz : RelV z r)
    (dz : Den X.kw F d z) (hl : ks.length < sizeLine) (q : ∀ H' s', Put X.kw F H a (putD k d ks vs) H' → Inv X pins σ H' s' → Q () s') : wpAny (model X.prog X.w) X.A (setItem (.ref a) u r) Q E s := by
  obtain ⟨a', ea, mu, hc⟩ := seen_dct I sm h hk ok ry
  cases ea
  rcases hc with ⟨ps, ha, _, q1, q2, fk, rfl⟩ | ⟨ps, xs, b, rfl, rfl, hkey, pr, dd, hs, hz, hn, q1, ht, tk, q2, dk⟩
  · have hl' : ps.length < sizeLine := by have := DenL.length q1; rw [List.length_map] at this; omega
    have dk : Den X.kw F k (kV (toK k)) := by cases k with
      | int i => exact rfl
      | str x => exact hk
      | _ => cases fk
    exact d_setItem (by omega) I (DPut.k ha hl') ry rz fun s' I' => q _ s' ⟨_, rfl, putD_flat fk dk dz hl' q1 q2⟩ I'
  · have hl' : ps.length < sizeLine := by have := DenL.length q1; rw [List.length_map] at this; omega
    refine wpAny_setItem_heap (hsz := by rw [← Paired.length pr]; exact hz) (room8 hu) hkey dd fun h' dd' hs' => ?_
    have he : ∃ q, h'.get? a = some q := let ⟨q, _, _, hq, _⟩ := dd'; ⟨q, hq⟩
    have hz' : (putN ps (nkey k) b z).length ≤ sizeLine := by have := putN_len ps (nkey k) b z; omega
    exact q _ _ ⟨_, rfl, putD_nest (K := X.kw) tk dk dz hl' hn ht q1 q2⟩ (d_write I mu hs' he (dn_new hz' hs (PN.put pr (nkey k) b rz) dd'))
/-- d.setdefault(k, z) -/
theorem d_setd_ok (hu : X.A.units + 64 < cLine) (I : Inv X pins σ H s) (sm : Same F H) {ks vs : List Dat} {k d : Dat} {y z : V} {u r : Value} {Q : Value → Shared → Prop} {E : Value → Shared → Prop} (h : Seen X.kw F H (.dct ks vs) (.ref a)) (hk : Seen X.kw F H k y) (ok : okey ks k = true) (ry : RelV y u) (rz : RelV z r)
    (dz : Den X.kw F d z) (hl : ks.length < sizeLine) (hlv : vs.length = ks.length) (q1' : ∀ e, getV k ks vs = some e → ∀ x w' s', Inv X pins σ H s' → RelV x w' → Den X.kw F e x → Q w' s') (q2' : hasK k ks = false → ∀ H' w' s', Put X.kw F H a (putD k d ks vs) H' → Inv X pins σ H' s' → RelV z w' → Q w' s') :
    wpAny (model X.prog X.w) X.A (call (.builtin "dict.setdefault") [.ref a, u, r]) Q E s := by
  have hsome : hasK k ks = true → ∃ e, getV k ks vs = some e := by
    clear q1' q2' hl ok h hk
    induction ks generalizing vs with
    | nil => intro h; cases h
    | cons x ks ih =>
      intro h
      cases vs with
      | nil => cases hlv
      | cons v vs =>
        unfold getV
        by_cases e : eqK x k = true
        · exact ⟨v, by rw [if_pos e]⟩
        · rw [if_neg e]
          refine ih (by simpa using hlv) ?_
          unfold hasK at h ⊢
          rw [List.any_cons] at h
          simpa [e] using h
  obtain ⟨a', ea, mu, hc⟩ := seen_dct I sm h hk ok ry
  cases ea
  rcases hc with ⟨ps, ha, _, q1, q2, fk, rfl⟩ | ⟨ps, xs, b, rfl, rfl, hkey, pr, dd, hs, hz, hn, q1, ht, tk, q2, dk⟩
  · have hl' : ps.length < sizeLine := by have := DenL.length q1; rw [List.length_map] at this; omega
    have dk : Den X.kw F k (kV (toK k)) := by cases k with
      | int i => exact rfl
      | str x => exact hk
      | _ => cases fk
    obtain ⟨g1, g2⟩ := get_flat fk q1 q2
    refine d_setd I ha ry rz hl' (fun v hv w' s' I' r' => ?_) (fun hv w' s' I' r' => ?_)
    · obtain ⟨e, he⟩ := hsome (by rw [g1, hv]; rfl)
      obtain ⟨x, hx, dx⟩ := g2 e he
      rw [hv] at hx
      cases hx
      exact q1' e he _ w' s' I' r' dx
    · exact q2' (by rw [g1, hv]; rfl) _ w' s' ⟨_, rfl, putD_flat fk dk dz hl' q1 q2⟩ I' r'
  · have hl' : ps.length < sizeLine := by have := DenL.length q1; rw [List.length_map] at this; omega
    obtain ⟨g1, g2⟩ := get_nest (k := k) hn q2
    have hv := PN.val pr (nkey k)
    refine call_setdefault_heap (hsz := by rw [← Paired.length pr]; exact hz) (room8 hu) hkey hs dd (fun p hp => ?_) fun hn' h' dd' hs' => ?_
    · rw [hp] at hv
      cases q0 : valN ps (nkey k) with
      | none => rw [q0] at hv; exact (show False from hv).elim
      | some v0 =>
        rw [q0] at hv
        obtain ⟨e, he⟩ := hsome (by rw [g1, q0]; rfl)
        obtain ⟨x, hx, dx⟩ := g2 e he
        rw [q0] at hx
        cases hx
        exact q1' e he _ _ _ (I.tok _) hv dx
    · rw [hn'] at hv
      cases q0 : valN ps (nkey k) with
      | some v0 => rw [q0] at hv; exact (show False from hv).elim
      | none =>
        have he : ∃ q, h'.get? a = some q := let ⟨q, _, _, hq, _⟩ := dd'; ⟨q, hq⟩
        have hz' : (putN ps (nkey k) b z).length ≤ sizeLine := by have := putN_len ps (nkey k) b z; omega
        exact q2' (by rw [g1, q0]; rfl) _ _ _ ⟨_, rfl, putD_nest (K := X.kw) tk dk dz hl' hn ht q1 q2⟩ (d_write I mu hs' he (dn_new hz' hs (PN.put pr (nkey k) b rz) dd')) rz
theorem d_type (I : Inv X pins σ H s) {ks vs : List Dat} {x : V} {v : Value} (h : Seen X.kw F H (.dct ks vs) x) (rx : RelV x v) : s.TypeIs v "dict" := by
  obtain ⟨a, w, ws, zs, rfl, ha, ⟨hl, hd⟩, q1, q2⟩ := h
  obtain rfl : v = Value.ref a := rx
  rcases hd with ⟨ps, rfl, rfl, rfl⟩ | ⟨ps, rfl, rfl, rfl, hn, ht, hne⟩
  · obtain ⟨_, _, _, _, dd⟩ := dk_of I.hok ha
    exact dd.typeIs
  · obtain ⟨l, hs, xs, pr, o, es, ep, h1, h2, h3, h4, h5⟩ := (I.hok a _ ha).1
    exact ⟨o, h1, h2.1⟩
theorem DOk.flat {K : Kw} {u : HO} {ks : List Dat} {ws zs : List V} (h : DOk K a u ks ws zs) (f : ks.all flatK = true) (q : DenL K F ks ws) : ∃ ps, u = .dK ps ∧ ws = ps.map (fun p => kV p.1) ∧ zs = ps.map (·.2) := by
  rcases h.2 with z | ⟨ps, rfl, rfl, rfl, hn, ht, hne⟩
  · exact z
  · have e := flat_nil f ht
    subst e
    cases ps with
    | nil => exact absurd rfl hne
    | cons p ps => cases q
/-- len(d) -/
theorem d_len_ok (I : Inv X pins σ H s) (sm : Same F H) {ks vs : List Dat} {x : V} {v : Value} {Q : Value → Shared → Prop} {E : Value → Shared → Prop} (h : Seen X.kw F H (.dct ks vs) x) (rx : RelV x v)
    (q : ∀ t s', Inv X pins σ H s' → Q (.int ks.length t) s') : wpAny (model X.prog X.w) X.A (call (.builtin "len") [v]) Q E s := by
  obtain ⟨a, w, ws, zs, rfl, ha, ⟨hl, hd⟩, q1, q2⟩ := h
  obtain rfl : v = Value.ref a := rx
  have e := DenL.length q1
  rcases hd with ⟨ps, rfl, rfl, rfl⟩ | ⟨ps, rfl, rfl, rfl, hn, ht, hne⟩
  · rw [List.length_map] at e
    rw [e] at q
    exact d_len I (.inl ha) q
  · obtain ⟨hz, hs, xs, pr, dd⟩ := dn_at I sm ha hn q1 ht
    rw [List.length_map, Paired.length pr] at e
    rw [e] at q
    refine call_len_dictH hs dd ?_ (q _ _ (I.tok _))
    rw [Paired.length pr, sizeLine_eq] at hz
    omega
/-- dict's own store -/
theorem d_dset_ok (hu : X.A.units + 64 < cLine) (I : Inv X pins σ H s) (sm : Same F H) {ks vs : List Dat} {k d : Dat} {y z : V} {u r : Value} {Q : Unit → Shared → Prop} {E : Value → Shared → Prop} (h : Seen X.kw F H (.dct ks vs) (.ref a)) (hk : Seen X.kw F H k y) (ok : okey ks k = true) (ry : RelV y u) (rz : RelV z r)
    (dz : Den X.kw F d z) (hl : ks.length < sizeLine) (q : ∀ H' s', Put X.kw F H a (putD k d ks vs) H' → Inv X pins σ H' s' → Q () s') : wpAny (model X.prog X.w) X.A (dictSet a u r) Q E s := by
  obtain ⟨a', ea, mu, hc⟩ := seen_dct I sm h hk ok ry
  cases ea
  rcases hc with ⟨ps, ha, _, q1, q2, fk, rfl⟩ | ⟨ps, xs, b, rfl, rfl, hkey, pr, dd, hs, hz, hn, q1, ht, tk, q2, dk⟩
  · have hl' : ps.length < sizeLine := by have := DenL.length q1; rw [List.length_map] at this; omega
    have dk : Den X.kw F k (kV (toK k)) := by cases k with
      | int i => exact rfl
      | str x => exact hk
      | _ => cases fk
    obtain ⟨z', hd, vs', rel, dd⟩ := dk_of I.hok ha
    have hz : vs'.length ≤ sizeLine := by rw [← rel.length]; exact z'
    have hl2 : (putK ps (toK k) z).length ≤ sizeLine := by have := length_putK ps (toK k) z; omega
    refine wpAny_dictSet_pairs (knd := mixKind X.prog X.w) (hsz := hz) (kV_is ry) dd fun h' dd' hs => q _ _ ⟨_, rfl, putD_flat fk dk dz hl' q1 q2⟩ ?_
    have he : ∃ q, h'.get? a = some q := let ⟨q, _, _, hq, _⟩ := dd'; ⟨q, hq⟩
    exact d_write I mu hs he (dk_new hl2 hd (rel.put (toK k) rz) dd')
  · have hl' : ps.length < sizeLine := by have := DenL.length q1; rw [List.length_map] at this; omega
    refine wpAny_dictSet_heap (hsz := by rw [← Paired.length pr]; exact hz) (show X.A.units + 8 < cLine by omega) hkey dd fun h' dd' hs' => ?_
    have he : ∃ q, h'.get? a = some q := let ⟨q, _, _, hq, _⟩ := dd'; ⟨q, hq⟩
    have hz' : (putN ps (nkey k) b z).length ≤ sizeLine := by have := putN_len ps (nkey k) b z; omega
    exact q _ _ ⟨_, rfl, putD_nest (K := X.kw) tk dk dz hl' hn ht q1 q2⟩ (d_write I mu hs' he (dn_new hz' hs (PN.put pr (nkey k) b rz) dd'))
theorem d_nodict (I : Inv X pins σ H s) {ks vs : List Dat} {x : V} {v : Value} (h : Seen X.kw F H (.dct ks vs) x) (rx : RelV x v) : ∀ b, v = .ref b → ∃ ob, s.heap.get? b = some ob ∧ ob.dict = none := by
  obtain ⟨a, w, ws, zs, rfl, ha, ⟨hl, hd⟩, q1, q2⟩ := h
  obtain rfl : v = Value.ref a := rx
  intro b e
  cases e
  rcases hd with ⟨ps, rfl, rfl, rfl⟩ | ⟨ps, rfl, rfl, rfl, hn, ht, hne⟩
  · obtain ⟨_, _, vs, _, ob, _, _, h1, h2, _⟩ := dk_of I.hok ha
    exact ⟨ob, h1, h2.2.1⟩
  · obtain ⟨l, hs, xs, pr, o, es, ep, h1, h2, h3, h4, h5⟩ := (I.hok a _ ha).1
    exact ⟨o, h1, h2.2.1⟩
end
/-- pairs, one behind the other, as a dict -/
def mkD : List Dat → List Dat → List Dat → Option Dat
  | [], ks, vs => some (.dct ks vs)
  | k :: v :: r, ks, vs => if okey ks k = true ∧ ks.length < 1000 then (match putD k v ks vs with | .dct ks' vs' => mkD r ks' vs' | _ => none) else none
  | [_], _, _ => none
def Den2 (K : Kw) (F : Hp) : List Dat → List (V × V) → Prop
  | [], ps => ps = []
  | k :: v :: r, ps => ∃ x y qs, ps = (x, y) :: qs ∧ Den K F k x ∧ Den K F v y ∧ Den2 K F r qs
  | [_], _ => False
theorem Own.seen {K : Kw} {F H : Hp} {a : Addr} {d : Dat} (h : Own K F H a d) : Seen K F H d (.ref a) := Seen.own h
section
variable {X : Cx} {pins : List (Addr × Obj)} {σ : L2.St} {F : Hp} {a : Addr}
theorem okey_seen {K : Kw} {F H : Hp} {ks : List Dat} {k : Dat} {v : V} (ok : okey ks k = true) (h : Den K F k v) : Seen K F H k v := by
  unfold okey at ok
  cases k with
  | lst ds => simp [flatK, tupK] at ok
  | dct a b => simp [flatK, tupK] at ok
  | _ => exact h
theorem store_all (hu : X.A.units + 64 < cLine) (ha : F a = none) {E : Value → Shared → Prop} : ∀ (ds : List Dat) {ks vs : List Dat} {d : Dat} {ps : List (V × V)} {us : List (Value × Value)} {H : Hp} {s : Shared} {Q : PUnit → Shared → Prop}, Inv X pins σ H s → Same F H → Own X.kw F H a (.dct ks vs) → Den2 X.kw F ds ps → VV ps us → mkD ds ks vs = some d →
    (∀ H' s', (∃ u, H' = upd H a u) → Own X.kw F H' a d → Inv X pins σ H' s' → Q PUnit.unit s') → wpAny (model X.prog X.w) X.A (storeAll a us) Q E s
  | [], ks, vs, d, ps, us, H, s, Q, I, sm, ow, d2, vv, hm, q => by
    have d2 : ps = [] := d2
    subst d2
    cases vv
    cases hm
    obtain ⟨o, ho⟩ := Own.there ow
    unfold storeAll
    rw [List.forIn_nil]
    have e : H = upd H a o := by
      funext b
      by_cases hb : b = a
      · subst hb; rw [upd_same, ho]
      · rw [upd_ne hb]
    exact wpAny_pure (q H s ⟨o, e⟩ ow I)
  | [_], ks, vs, d, ps, us, H, s, Q, I, sm, ow, d2, vv, hm, q => d2.elim
  | k :: v :: r, ks, vs, d, ps, us, H, s, Q, I, sm, ow, d2, vv, hm, q => by
    obtain ⟨x, y, qs, rfl, dk, dv, d3⟩ := d2
    cases vv with
    | @cons _ q' _ us' h t =>
      obtain ⟨u1, u2⟩ := q'
      unfold mkD at hm
      split at hm
      · rename_i hok
        unfold storeAll
        rw [List.forIn_cons]
        refine wpAny_bind (wpAny_bind (d_dset_ok hu I sm (Own.seen ow) (okey_seen hok.1 dk) hok.1 h.1 h.2 dv (by rw [sizeLine_eq]; omega) fun H1 s1 pt I1 => wpAny_pure ?_))
        obtain ⟨u, rfl, ow1⟩ := pt
        have sm1 : Same F (upd H a u) := fun b o e => by
          rw [upd_ne (fun z => by subst z; rw [ha] at e; cases e)]
          exact sm b o e
        split at hm
        · rename_i ks' vs' hp
          rw [hp] at ow1
          refine store_all hu ha r I1 sm1 ow1 d3 t hm fun H' s' hH ow' I' => q H' s' ?_ ow' I'
          obtain ⟨u', rfl⟩ := hH
          refine ⟨u', ?_⟩
          funext b
          by_cases hb : b = a
          · subst hb; rw [upd_same, upd_same]
          · rw [upd_ne hb, upd_ne hb, upd_ne hb]
        · cases hm
      · cases hm
/-- {k: v, ..} -/
def tDspD (K : Kw) (trs : List (TE × TE)) : TE := fun σ H Q => ∀ p, H p = none → tPairs trs σ (upd H p (.dK [])) fun ps H2 => H2 p = some (.dK []) ∧ ∃ F ds d, Same F H2 ∧ F p = none ∧ Den2 K F ds ps ∧ mkD ds [] [] = some d ∧ ∀ H3, (∃ u, H3 = upd H2 p u) → Own K F H3 p d → Q (.ref p) H3
theorem pe_dspD {pos : Pos} {keys : List (Option Expr)} {values : List Expr} {trs : List (TE × TE)} (hu : X.A.units + 64 < cLine) (h : PPs X pos keys values trs) (hall : keys.all (·.isSome) = true) (hl : keys.length = values.length) (h0 : keys ≠ [])
    (h15 : keys.length ≤ 15) : PE X (.Dict keys values pos) (tDspD X.kw trs) := by
  refine ⟨fun pins s σ H Q I q => ?_⟩
  have hn := I.hok.fresh (Nat.le_refl s.heap.objs.size)
  have I1 := I.laid (a := s.heap.objs.size) (o := .dK []) (h' := s.heap.push { cls := .type "dict", data := .dict #[] }) (t' := s.toks) (fun _ _ q => Heap.get?_push_of_some _ q) (Nat.le_refl _) (dk_empty s.heap I.big)
  refine wpAny_Dict_any hall hl h0 h15 (thn (h.run pins _ σ _ _ I1 (q _ hn)) fun ws s2 ⟨ps, H2, I2, rel, e, F, ds, d, sm, hp, d2, hm, q2⟩ => ?_)
  exact store_all (ks := []) (vs := []) hu hp ds I2 sm ⟨_, [], [], e, ⟨Nat.zero_le _, .inl ⟨[], rfl, rfl, rfl⟩⟩, DenL.nil, DenL.nil⟩ d2 rel hm fun H' s' hH ow I' => ⟨.ref s.heap.objs.size, H', I', rfl, q2 H' hH ow⟩
def tBMD (K : Kw) (r : V → List V → Hp → VK → Prop) (to : TE) (t : TA) : TE := fun σ H Q => to σ H fun x H1 => (∃ F ks vs, Seen K F H1 (.dct ks vs) x) ∧ t σ H1 fun xs H2 => r x xs H2 Q
theorem pe_bmD {id : String} {name : Str} {r : V → List V → Hp → VK → Prop} {o e : Expr} {es : List Expr} {to : TE} {t : TA} {apos cpos : Pos} (slot : Slot "dict" name id) (hty : typeOf (.builtin id) = pure (.type "method_descriptor")) (hm : MtR X id r) (ho : PE X o to) (ha : PA X (e :: es) t)
    (hbase : attributeBase o name X.env (eval o X.env) = eval o X.env)
    (hfew : ((backTo cpos (starEach (e :: es) X.env)).all (fun x => !x.1) && (backToKw cpos (keywordEach [] X.env)).all (fun x => x.1.isSome)
      && decide ((e :: es).length + ([] : List Keyword).length + (if ([] : List Keyword).isEmpty then 0 else 1) < 30)) = true)
    (hline : (apos.endLine == cpos.line) = true) (hs : starEach (e :: es) X.env = (false, eval e X.env) :: starEach es X.env) (hplain : (backTo cpos (starEach es X.env)).any (·.1) = false) :
    PE X (.Call (.Attribute o name apos) (e :: es) [] cpos) (tBMD X.kw r to t) := by
  refine ⟨fun pins s σ H Q I h => ?_⟩
  refine wpAny_Call_method_late hbase hfew hline rfl (thn (ho.run pins s σ H _ I h) fun v s1 ⟨x, H1, I1, r1, ⟨F, ks, vs, sn⟩, q1⟩ => ?_)
  refine ⟨"dict", id, PySem.F.plainAttrs_dict, slot, hty, d_type I1 sn r1, d_nodict I1 sn r1, ?_⟩
  have hA := ha.run cpos pins s1 σ H1 _ I1 q1
  rw [hs] at hA ⊢
  refine Calls.callWith_builtin (by show (false || (backTo cpos (starEach es X.env)).any (·.1)) = false; rw [hplain] <;> rfl) (Calls.evalArgs_plain ?_)
  exact thn hA fun us s2 ⟨vs, H2, I2, r2, q2⟩ => hm pins s2 σ H2 x vs v us Q I2 r1 r2 q2
def rSetd (K : Kw) : V → List V → Hp → VK → Prop := fun x xs H Q => ∃ a y z F ks vs k d, x = .ref a ∧ xs = [y, z] ∧ Same F H ∧ Seen K F H (.dct ks vs) x ∧ Seen K F H k y ∧ okey ks k = true ∧ Den K F d z ∧ ks.length < sizeLine ∧ vs.length = ks.length ∧
  (∀ e, getV k ks vs = some e → ∀ w, Den K F e w → Q w H) ∧ (hasK k ks = false → ∀ H', Put K F H a (putD k d ks vs) H' → Q z H')
theorem mt_setd (hu : X.A.units + 64 < cLine) : MtR X "dict.setdefault" (rSetd X.kw) := by
  intro pins s σ H x xs v us Q I rx rs h
  obtain ⟨a, y, z, F, ks, vs, k, d, rfl, rfl, sm, hd, hk, ok, dz, hl, hlv, q1, q2⟩ := h
  obtain rfl : v = Value.ref a := rx
  obtain ⟨u1, u2, rfl, r1, r2⟩ := rs.two
  exact d_setd_ok hu I sm hd hk ok r1 r2 dz hl hlv (fun e he x w' s' I' r' dx => ⟨x, H, I', r', q1 e he x dx⟩) (fun hn H' w' s' pt I' r' => ⟨z, H', I', r', q2 hn H' pt⟩)
/-- the target d[k], or xs[i] -/
def rSetDL (K : Kw) : TSet := fun x y v H Q => rSetL x y v H Q ∨ ∃ a F ks vs k d, x = .ref a ∧ Same F H ∧ Seen K F H (.dct ks vs) x ∧ Seen K F H k y ∧ okey ks k = true ∧ Den K F d v ∧ ks.length < sizeLine ∧ ∀ H', Put K F H a (putD k d ks vs) H' → Q H'
theorem set_dl (hu : X.A.units + 64 < cLine) : PSet X (rSetDL X.kw) := by
  intro pins s σ H x y z v u r Q I rx ry rz h
  rcases h with h | ⟨a, F, ks, vs, k, d, rfl, sm, hd, hk, ok, dz, hl, q⟩
  · exact set_list pins s σ H x y z v u r Q I rx ry rz h
  · obtain rfl : v = Value.ref a := rx
    exact d_put_ok hu I sm hd hk ok ry rz dz hl fun H' s' pt I' => ⟨H', I', q H' pt⟩
end
end Dl

/-! Z1: zip and enumerate over lists, tuples, texts in any mix, as turns of a loop. -/
namespace Dl
open PySem PySem.Spec PyProof.Rows L2

/-- what may be walked: a list, a tuple, a text -/
inductive Kd where
  | l (a : Addr) | t (a : Addr) | s (x : Str) (u : Tok)
namespace Kd
def val : Kd → Value
  | .l a => .ref a
  | .t a => .ref a
  | .s x u => .str x u
def at_ (it : Addr) (i : Nat) (h : Heap) : Kd → Prop
  | .l a => h.IsListIter it a i
  | .t a => h.IsTupleIter it a i
  | .s x u => h.IsStrIter it (strIterType x) x u i
def has (K : PySem.W.Frag) (H : Hp) : Kd → List V → Prop
  | .l a, xs => SqL K H a xs
  | .t a, xs => SqT K H a xs
  | .s x _, xs => xs = x.cps.toList.map fun c => V.str ⟨#[c]⟩
def base : Kd → List Addr
  | .l a => [a]
  | .t a => [a]
  | .s _ _ => []
def fp (it : Addr) (k : Kd) : List Addr := it :: k.base
def obj : Kd → Obj
  | .l a => { cls := .type "list_iterator", data := .fields #[.ref a, .int 0 0] }
  | .t a => { cls := .type "tuple_iterator", data := .fields #[.ref a, .int 0 0] }
  | .s x u => { cls := .type (strIterType x), data := .fields #[.str x u, .int 0 0] }
theorem at_keep {it : Addr} {i : Nat} {h h' : Heap} (k : Kd) (q : k.at_ it i h) (hk : ∀ o, h.get? it = some o → h'.get? it = some o) : k.at_ it i h' := by
  cases k with
  | l a => obtain ⟨o, e, r⟩ := q; exact ⟨o, hk o e, r⟩
  | t a => obtain ⟨o, e, r⟩ := q; exact ⟨o, hk o e, r⟩
  | s x u => obtain ⟨o, e, r⟩ := q; exact ⟨o, hk o e, r⟩
theorem at_obj {it : Addr} {i : Nat} {h : Heap} (k : Kd) (q : k.at_ it i h) : ∃ o, h.get? it = some o ∧ ∀ v, o.data ≠ .cell v := by
  cases k with
  | l a => obtain ⟨o, e, _, r⟩ := q; exact ⟨o, e, fun v z => by rw [r] at z; cases z⟩
  | t a => obtain ⟨o, e, _, r⟩ := q; exact ⟨o, e, fun v z => by rw [r] at z; cases z⟩
  | s x u => obtain ⟨o, e, _, r⟩ := q; exact ⟨o, e, fun v z => by rw [r] at z; cases z⟩
theorem at_new {it : Addr} {h : Heap} (k : Kd) (q : h.get? it = some k.obj) : k.at_ it 0 h := by
  cases k with
  | l a => exact ⟨_, q, rfl, rfl⟩
  | t a => exact ⟨_, q, rfl, rfl⟩
  | s x u => exact ⟨_, q, rfl, rfl⟩
section
variable {X : Cx} {pins : List (Addr × Obj)} {σ : L2.St} {H : Hp} {s : Shared}
theorem vals_back {xs : List V} {its : List Value} (r : Vals xs its) {i : Nat} {v : Value} (e : its[i]? = some v) : ∃ x, xs[i]? = some x ∧ RelV x v := by
  have hi := (List.getElem?_eq_some_iff.mp e).1
  rw [← r.length] at hi
  obtain ⟨u, e2, q⟩ := r.get (List.getElem?_eq_getElem hi)
  rw [e] at e2
  cases e2
  exact ⟨_, List.getElem?_eq_getElem hi, q⟩
theorem draws (I : Inv X pins σ H s) (k : Kd) {xs : List V} (h : k.has X.K H xs) {it : Addr} (hne : it ∉ k.base) {A : Around} (hh : A.handled = none) :
    ∃ P St, Draws X.prog X.w A it (k.fp it) xs.length P St ∧ (∀ i, k.at_ it i s.heap → St i s.heap) ∧ (∀ i h', St i h' → k.at_ it i h') ∧ ∀ i v, P i v → ∃ x, xs[i]? = some x ∧ RelV x v := by
  cases k with
  | l a =>
    obtain ⟨its, rv, p, _⟩ := I.list h
    have hn : a ≠ it := fun z => hne (by subst z; exact List.mem_singleton_self _)
    have e : its.toArray.size = xs.length := by rw [rv.length]; simp
    have D : Draws X.prog X.w A it [it, a] xs.length (fun i v => its.toArray[i]? = some v) (fun i h => h.IsListIter it a i ∧ h.IsList a its.toArray) := by
      rw [← e]
      exact Draws.list hh it a hn its.toArray
    exact ⟨_, _, D, fun i q => ⟨q, p.isList⟩, fun i h' q => q.1, fun i v q => vals_back rv (by simpa using q)⟩
  | t a =>
    obtain ⟨its, rv, p, _⟩ := I.tuple h
    have hn : a ≠ it := fun z => hne (by subst z; exact List.mem_singleton_self _)
    have e : its.toArray.size = xs.length := by rw [rv.length]; simp
    have D : Draws X.prog X.w A it [it, a] xs.length (fun i v => its.toArray[i]? = some v) (fun i h => h.IsTupleIter it a i ∧ h.IsTuple a its.toArray) := by
      rw [← e]
      exact Draws.tuple hh it a hn its.toArray
    exact ⟨_, _, D, fun i q => ⟨q, p⟩, fun i h' q => q.1, fun i v q => vals_back rv (by simpa using q)⟩
  | s x u =>
    have D := Draws.text (prog := X.prog) (w := X.w) hh it x u
    have h : xs = x.cps.toList.map fun c => V.str ⟨#[c]⟩ := h
    subst h
    have e : x.cps.size = (x.cps.toList.map fun c => V.str ⟨#[c]⟩).length := by simp
    rw [e] at D
    refine ⟨_, _, D, fun i q => q, fun i h' q => q, fun i v q => ?_⟩
    obtain ⟨c, t, e, rfl⟩ := q
    exact ⟨V.str ⟨#[c]⟩, by rw [List.getElem?_map, Array.getElem?_toList, e]; rfl, t, rfl⟩
theorem has_inj (I : Inv X pins σ H s) (k : Kd) {xs ys : List V} (h : k.has X.K H xs) (h' : k.has X.K H ys) : xs = ys := by
  cases k with
  | l a => exact I.list_inj h h'
  | t a => exact I.tuple_inj h h'
  | s x u => exact Eq.trans h (Eq.symm h')
theorem begins (I : Inv X pins σ H s) (k : Kd) {xs : List V} (h : k.has X.K H xs) : ∃ G : Heap → Prop, Begins k.val k.obj G ∧ G s.heap ∧ ∀ b ∈ k.base, b < s.heap.objs.size := by
  cases k with
  | l a =>
    obtain ⟨its, rv, p, _⟩ := I.list h
    exact ⟨_, begins_list a its.toArray, p.isList, fun b hb => by rw [List.mem_singleton.mp hb]; exact p.lt⟩
  | t a =>
    obtain ⟨its, rv, p, _⟩ := I.tuple h
    exact ⟨_, begins_tuple a its.toArray, p, fun b hb => by rw [List.mem_singleton.mp hb]; obtain ⟨o, e, _⟩ := id p; exact Heap.lt_size e⟩
  | s x u => exact ⟨_, begins_text x u, trivial, fun b hb => nomatch hb⟩
end
end Kd
/-- zip's turns -/
def Itz2 (K : PySem.W.Frag) (k1 k2 : Kd) : It :=
  ⟨fun i H => ∃ xs ys, k1.has K H xs ∧ k2.has K H ys ∧ i < min xs.length ys.length,
    fun i H v H' => ∃ T x y, v = .ref T ∧ H T = none ∧ H' = upd H T (.tup [x, y]) ∧ (∀ xs, k1.has K H xs → xs[i]? = some x) ∧ ∀ ys, k2.has K H ys → ys[i]? = some y,
    fun i H => ∃ xs ys, k1.has K H xs ∧ k2.has K H ys ∧ i = min xs.length ys.length⟩
theorem turn_zip2 {P : Program} {w : World} {K : PySem.W.Frag} {elts : List Expr} {kk : Nat} {tpos : Pos} {k1 k2 : Kd} {z TI TO i1 i2 : Addr} (S : ZipSep2 z TI TO i1 i2 (k1.fp i1) (k2.fp i2)) (n1 : i1 ∉ k1.base) (n2 : i2 ∉ k2.base) :
    Turn P w K (.Tuple elts kk tpos) (Itz2 K k1 k2) [z, TI, TO, i1, i2] z (fun i h => IsZip h z TI TO .none ∧ IsTupOf2 h TI (.ref i1) (.ref i2) ∧ (∃ x y, IsTupOf2 h TO x y) ∧ k1.at_ i1 i h ∧ k2.at_ i2 i h) where
  mem := List.mem_cons_self
  obj := fun i h st c hc => by
    obtain ⟨g1, g2, ⟨x, y, g3⟩, g4, g5⟩ := st
    simp only [List.mem_cons, List.not_mem_nil, or_false] at hc
    rcases hc with rfl | rfl | rfl | rfl | rfl
    · exact ⟨_, g1, fun v q => nomatch q⟩
    · exact ⟨_, g2, fun v q => nomatch q⟩
    · exact ⟨_, g3, fun v q => nomatch q⟩
    · exact k1.at_obj g4
    · exact k2.at_obj g5
  keep := fun i h h' st k => by
    obtain ⟨g1, g2, ⟨x, y, g3⟩, g4, g5⟩ := st
    exact ⟨k z (by simp) _ g1, k TI (by simp) _ g2, ⟨x, y, k TO (by simp) _ g3⟩, k1.at_keep g4 fun o q => k i1 (by simp) o q, k2.at_keep g5 fun o q => k i2 (by simp) o q⟩
  item := by
    intro X hP hw hK hc i pins s σ H E I hf st hg
    subst hP hw hK
    obtain ⟨xs, ys, q1, q2, hi⟩ := hg
    obtain ⟨g1, g2, g3, g4, g5⟩ := st
    obtain ⟨P1, S1, D1, a1, b1, r1⟩ := k1.draws I q1 n1 (A := X.A.in1) (I.ok.hd hc)
    obtain ⟨P2, S2, D2, a2, b2, r2⟩ := k2.draws I q2 n2 (A := X.A.in1) (I.ok.hd hc)
    have G := GoesN.zip2 (elts := elts) (x1 := kk) (pos := tpos) S D1 D2
    refine G.goes i s _ E hi ⟨g1, g2, g3, a1 i g4, a2 i g5⟩ fun v h' tk hY st' hk htk => ?_
    obtain ⟨T, u1, u2, rfl, hT, p1, p2, hT2⟩ := hY
    obtain ⟨x, e1, rx⟩ := r1 i u1 p1
    obtain ⟨y, e2, ry⟩ := r2 i u2 p2
    obtain ⟨f1, f2, f3, f4, f5⟩ := st'
    have new : ObjOk X.prog X.w (upd H T (.tup [x, y])) h' T (.tup [x, y]) := ⟨by show 2 ≤ sizeLine; decide, [u1, u2], .cons rx (.cons ry .nil), hT2⟩
    have I1 := I.turnedNew (t' := tk) (ch := [z, TI, TO, i1, i2]) (fun c o hb q => hk c o (fun m => hb (by simp only [List.mem_cons, List.not_mem_nil, or_false] at m ⊢; rcases m with m | m | m | m <;> simp [m])) q) hf hT new
    refine ⟨.ref T, _, I1, rfl, ⟨T, x, y, rfl, I.hok.fresh hT, rfl, fun l hl => by rw [k1.has_inj I hl q1]; exact e1, fun l hl => by rw [k2.has_inj I hl q2]; exact e2⟩, ⟨f1, f2, f3, b1 _ _ f4, b2 _ _ f5⟩, fun c hcm => ?_⟩
    have hlt : c < s.heap.objs.size := by
      simp only [List.mem_cons, List.not_mem_nil, or_false] at hcm
      rcases hcm with rfl | rfl | rfl | rfl | rfl
      · exact Heap.lt_size g1
      · exact Heap.lt_size g2
      · obtain ⟨x, y, g3⟩ := g3; exact Heap.lt_size g3
      · obtain ⟨o, e, _⟩ := k1.at_obj g4; exact Heap.lt_size e
      · obtain ⟨o, e, _⟩ := k2.at_obj g5; exact Heap.lt_size e
    rw [upd_ne (Nat.ne_of_lt (Nat.lt_of_lt_of_le hlt hT))]
    exact (hf c hcm).1
  done := by
    intro X hP hw hK hc i pins s σ H E I hf st hg
    subst hP hw hK
    obtain ⟨xs, ys, q1, q2, rfl⟩ := hg
    obtain ⟨g1, g2, g3, g4, g5⟩ := st
    obtain ⟨P1, S1, D1, a1, b1, r1⟩ := k1.draws I q1 n1 (A := X.A.in1) (I.ok.hd hc)
    obtain ⟨P2, S2, D2, a2, b2, r2⟩ := k2.draws I q2 n2 (A := X.A.in1) (I.ok.hd hc)
    have G := GoesN.zip2 (elts := elts) (x1 := kk) (pos := tpos) S D1 D2
    refine G.stops s (fun s1 => Inv X pins σ H s1) E ⟨g1, g2, g3, a1 _ g4, a2 _ g5⟩ fun h' tk hk htk => ?_
    exact I.turnedL (t' := tk) (ch := [z, TI, TO, i1, i2]) (fun c o hb q => hk c o (fun m => hb (by simp only [List.mem_cons, List.not_mem_nil, or_false] at m ⊢; rcases m with m | m | m | m <;> simp [m])) q) hf
  self := fun A i s Q E st h => wpAny_pyIter_zip st.1 h
/-- enumerate's turns -/
def Ite2 (K : PySem.W.Frag) (k : Kd) : It :=
  ⟨fun i H => ∃ xs, k.has K H xs ∧ i < xs.length,
    fun i H v H' => ∃ T x, v = .ref T ∧ H T = none ∧ H' = upd H T (.tup [.int (i : Nat), x]) ∧ ∀ xs, k.has K H xs → xs[i]? = some x,
    fun i H => ∃ xs, k.has K H xs ∧ i = xs.length⟩
theorem turn_enum2 {P : Program} {w : World} {K : PySem.W.Frag} {elts : List Expr} {kk : Nat} {tpos : Pos} {k : Kd} {e it : Addr} (ne : e ≠ it) (nf : e ∉ k.fp it) (n1 : it ∉ k.base) :
    Turn P w K (.Tuple elts kk tpos) (Ite2 K k) [e, it] e (fun i h => (∃ old, IsEnum h e it (0 + ((i : Nat) : Int)) old) ∧ k.at_ it i h) where
  mem := List.mem_cons_self
  obj := fun i h st c hc => by
    obtain ⟨⟨old, g1⟩, g2⟩ := st
    simp only [List.mem_cons, List.not_mem_nil, or_false] at hc
    rcases hc with rfl | rfl
    · exact ⟨_, g1, fun v q => nomatch q⟩
    · exact k.at_obj g2
  keep := fun i h h' st q => by
    obtain ⟨⟨old, g1⟩, g2⟩ := st
    exact ⟨⟨old, q e (by simp) _ g1⟩, k.at_keep g2 fun o z => q it (by simp) o z⟩
  item := by
    intro X hP hw hK hc i pins s σ H E I hf st hg
    subst hP hw hK
    obtain ⟨xs, q1, hi⟩ := hg
    obtain ⟨g1, g2⟩ := st
    obtain ⟨P1, S1, D1, a1, b1, r1⟩ := k.draws I q1 n1 (A := X.A.in1) (I.ok.hd hc)
    have G := GoesN.enumFrom (elts := elts) (x1 := kk) (pos := tpos) 0 D1 e ne nf List.mem_cons_self
    refine G.goes i s _ E hi ⟨g1, a1 i g2⟩ fun v h' tk hY st' hk htk => ?_
    obtain ⟨T, t, u1, rfl, hT, p1, hT2⟩ := hY
    obtain ⟨x, e1, rx⟩ := r1 i u1 p1
    obtain ⟨f1, f2⟩ := st'
    have rI : RelV (.int ((i : Nat) : Int)) (.int (0 + ((i : Nat) : Int)) t) := ⟨t, by rw [Int.zero_add]⟩
    have new : ObjOk X.prog X.w (upd H T (.tup [.int (i : Nat), x])) h' T (.tup [.int (i : Nat), x]) := ⟨by show 2 ≤ sizeLine; decide, [.int (0 + ((i : Nat) : Int)) t, u1], .cons rI (.cons rx .nil), hT2⟩
    have I1 := I.turnedNew (t' := tk) (ch := [e, it]) (fun c o hb q => hk c o hb q) hf hT new
    refine ⟨.ref T, _, I1, rfl, ⟨T, x, rfl, I.hok.fresh hT, rfl, fun l hl => by rw [k.has_inj I hl q1]; exact e1⟩, ⟨f1, b1 _ _ f2⟩, fun c hcm => ?_⟩
    have hlt : c < s.heap.objs.size := by
      simp only [List.mem_cons, List.not_mem_nil, or_false] at hcm
      rcases hcm with rfl | rfl
      · obtain ⟨old, g1⟩ := g1; exact Heap.lt_size g1
      · obtain ⟨o, e, _⟩ := k.at_obj g2; exact Heap.lt_size e
    rw [upd_ne (Nat.ne_of_lt (Nat.lt_of_lt_of_le hlt hT))]
    exact (hf c hcm).1
  done := by
    intro X hP hw hK hc i pins s σ H E I hf st hg
    subst hP hw hK
    obtain ⟨xs, q1, rfl⟩ := hg
    obtain ⟨g1, g2⟩ := st
    obtain ⟨P1, S1, D1, a1, b1, r1⟩ := k.draws I q1 n1 (A := X.A.in1) (I.ok.hd hc)
    have G := GoesN.enumFrom (elts := elts) (x1 := kk) (pos := tpos) 0 D1 e ne nf List.mem_cons_self
    refine G.stops s (fun s1 => Inv X pins σ H s1) E ⟨g1, a1 _ g2⟩ fun h' tk hk htk => ?_
    exact I.turnedL (t' := tk) (ch := [e, it]) (fun c o hb q => hk c o hb q) hf
  self := fun A i s Q E st h => let ⟨⟨_, he⟩, _⟩ := st; wpAny_pyIter_enum he h
/-- enumerate(v) makes two new cells -/
theorem meets_enum1 {v : Value} {o : Obj} {G : Heap → Prop} (B : Begins v o G) :
    Meets (Builtin.«enumerate.__new__» ⟨[.type "enumerate", v], []⟩) (fun _ R s => G s.heap ∧
      R (.ok (.ret (.ref (s.heap.push o).objs.size))) { s with heap := (s.heap.push o).push { cls := .type "enumerate", data := .fields #[.none, .bool false, .ref s.heap.objs.size, rawInt 0, .none, .none] } }) :=
  .of_wp fun prog w A R s h => by
    obtain ⟨hp, gs, dr, tk, os⟩ := s
    obtain ⟨h1, h⟩ := h
    have sub := sub_enumerate
    have it1 : ∀ {A' : Around} {E : Value → Shared → Prop} {Q : Value → Shared → Prop}, Q (.ref hp.objs.size) ⟨hp.push o, gs, dr, tk, os⟩ → wpAny (model prog w) A' (pyIter v) Q E ⟨hp, gs, dr, tk, os⟩ := fun z => B.iter prog w _ _ ⟨hp, gs, dr, tk, os⟩ _ h1 z
    (wp_walk using it1); (refine wpAny_stack_any fun _ => wpAny_pure ?_); split
    · (rename_i c _ _ _ _ _); cases (c == Value.type "enumerate") <;> ((wp_walk using it1); exact ⟨_, rfl, h⟩)
    · (wp_walk using it1); exact ⟨_, rfl, h⟩
theorem call_enum1 {prog : Program} {w : World} {A : Around} {E : Value → Shared → Prop} {s : Shared} {v : Value} {o : Obj} {G : Heap → Prop} {Q : Value → Shared → Prop} (B : Begins v o G) (h1 : G s.heap)
    (h : ∀ h', IsEnum h' (s.heap.objs.size + 1) s.heap.objs.size 0 .none → h'.get? s.heap.objs.size = some o → (∀ b u, s.heap.get? b = some u → h'.get? b = some u) → Q (.ref (s.heap.objs.size + 1)) { s with heap := h' }) :
    wpAny (model prog w) A (call (.type "enumerate") [v]) Q E s := by
  refine callType_new F.called_enumerate (by decide) (F.typeCall_enumerate_1 _) (F.newCall_enumerate_1 _) (fun z => F.args_object_init_2 z _) F.entry_enumerate_new (meets_enum1 B) ⟨h1, ?_⟩
  have hz : (s.heap.push o).objs.size = s.heap.objs.size + 1 := Heap.size_push ..
  have g1 := Heap.get?_push_size (s.heap.push o) (o := { cls := .type "enumerate", data := .fields #[.none, .bool false, .ref s.heap.objs.size, rawInt 0, .none, .none] }) rfl
  show _ ∧ _
  rw [hz] at g1 ⊢
  exact ⟨⟨_, g1, rfl⟩, h _ g1 (Heap.get?_push_of_some _ (Heap.get?_push_size _ B.free)) fun b u x => Heap.get?_push_of_some _ (Heap.get?_push_of_some _ x)⟩
/-- the value that k walks -/
def Kd.v : Kd → V
  | .l a => .ref a
  | .t a => .ref a
  | .s x _ => .str x
theorem Kd.rel (q : Kd) {u : Value} (r : RelV q.v u) : ∃ k : Kd, k.val = u ∧ ∀ K H, Kd.has K H k = Kd.has K H q := by
  cases q with
  | l a => cases r; exact ⟨.l a, rfl, fun _ _ => rfl⟩
  | t a => cases r; exact ⟨.t a, rfl, fun _ _ => rfl⟩
  | s x t =>
    obtain ⟨t', rfl⟩ := r
    exact ⟨.s x t', rfl, fun _ _ => rfl⟩
def iZip2 (K : PySem.W.Frag) (ta : TA) : TI := fun σ H R => ta σ H fun vs H1 => ∃ (v w : Kd) (xs ys : List V), vs = [v.v, w.v] ∧ v.has K H1 xs ∧ w.has K H1 ys ∧ R (Itz2 K v w) H1
theorem pi_zip2 {X : Cx} {e e2 : Expr} {ta : TA} {p pos tpos : Pos} {elts : List Expr} {kk : Nat} (hg : Gl X "zip") (hm : X.mg "zip" = none) (ha : PA X [e, e2] ta)
    (hs : starEach [e, e2] X.env = (false, eval e X.env) :: starEach [e2] X.env) (hpl : (backTo pos (starEach [e2] X.env)).any (·.1) = false) :
    PI X (.Tuple elts kk tpos) (.Call (.Name "zip" p) [e, e2] [] pos) (iZip2 X.K ta) := by
  refine ⟨fun pins s σ H R I h => ?_⟩
  refine Call_ (ld_blt I hg hm PyProof.Rows.boot_zip (PyProof.Rows.callWith_type1 (thn (ha.run pos pins s σ H _ I h) fun us s1 ⟨vs, H1, I1, r1, q1⟩ => ?_) hs hpl))
  obtain ⟨v, w, xs, ys, rfl, hv, hw, q⟩ := q1
  cases r1 with
  | cons r rr =>
    cases rr with
    | cons r' rr =>
      cases rr
      obtain ⟨k1, rfl, e1⟩ := v.rel r
      obtain ⟨k2, rfl, e2⟩ := w.rel r'
      have hk1 : k1.has X.K H1 xs := by rw [e1]; exact hv
      have hk2 : k2.has X.K H1 ys := by rw [e2]; exact hw
      have q : R (Itz2 X.K k1 k2) H1 := by simp only [Itz2, e1, e2]; exact q
      obtain ⟨G1, B1, g1, l1⟩ := k1.begins I1 hk1
      obtain ⟨G2, B2, g2, l2⟩ := k2.begins I1 hk2
      refine zip_begins2 B1 B2 g1 g2 fun h' z1 z2 z3 z4 z5 _ hk => wpAny_pyIter_zip z1 ?_
      have I2 : Inv X pins σ H1 { s1 with heap := h' } := I1.kept (t' := s1.toks) hk
      refine ⟨s1.heap.objs.size + 4, [s1.heap.objs.size + 4, s1.heap.objs.size + 2, s1.heap.objs.size + 3, s1.heap.objs.size, s1.heap.objs.size + 1], _, _, H1, rfl, I2,
        turn_zip2 (k1 := k1) (k2 := k2) (zip_sep2 l1 l2) (fun z => absurd (l1 _ z) (Nat.lt_irrefl _)) (fun z => absurd (l2 _ z) (Nat.not_lt.mpr (Nat.le_add_right _ 1))), ⟨z1, z2, ⟨_, _, z3⟩, k1.at_new z4, k2.at_new z5⟩, fun c hc => ?_, q⟩
      have hle : s1.heap.objs.size ≤ c := by
        simp only [List.mem_cons, List.not_mem_nil, or_false] at hc
        rcases hc with rfl | rfl | rfl | rfl | rfl
        · exact Nat.le_add_right _ _
        · exact Nat.le_add_right _ _
        · exact Nat.le_add_right _ _
        · exact Nat.le_refl _
        · exact Nat.le_add_right _ _
      exact I1.fpOk hle (I1.hok.fresh hle)
def iEnum2 (K : PySem.W.Frag) (ta : TA) : TI := fun σ H R => ta σ H fun vs H1 => ∃ (v : Kd) (xs : List V), vs = [v.v] ∧ v.has K H1 xs ∧ R (Ite2 K v) H1
theorem pi_enum2 {X : Cx} {e : Expr} {ta : TA} {p pos tpos : Pos} {elts : List Expr} {kk : Nat} (hg : Gl X "enumerate") (hm : X.mg "enumerate" = none) (ha : PA X [e] ta) (hs : starEach [e] X.env = [(false, eval e X.env)]) :
    PI X (.Tuple elts kk tpos) (.Call (.Name "enumerate" p) [e] [] pos) (iEnum2 X.K ta) := by
  refine ⟨fun pins s σ H R I h => ?_⟩
  refine Call_ (ld_blt I hg hm boot_enumerate (PyProof.Rows.callWith_type1 (thn (ha.run pos pins s σ H _ I h) fun us s1 ⟨vs, H1, I1, r1, q1⟩ => ?_) hs rfl))
  obtain ⟨v, xs, rfl, hv, q⟩ := q1
  cases r1 with
  | cons r rr =>
    cases rr
    obtain ⟨k1, rfl, e1⟩ := v.rel r
    have hk1 : k1.has X.K H1 xs := by rw [e1]; exact hv
    have q : R (Ite2 X.K k1) H1 := by simp only [Ite2, e1]; exact q
    obtain ⟨G1, B1, g1, l1⟩ := k1.begins I1 hk1
    refine call_enum1 B1 g1 fun h' z1 z2 hk => wpAny_pyIter_enum z1 ?_
    have I2 : Inv X pins σ H1 { s1 with heap := h' } := I1.kept (t' := s1.toks) hk
    refine ⟨s1.heap.objs.size + 1, [s1.heap.objs.size + 1, s1.heap.objs.size], _, _, H1, rfl, I2, turn_enum2 (k := k1) (Nat.succ_ne_self _) (fun z => ?_) (fun z => absurd (l1 _ z) (Nat.lt_irrefl _)), ⟨⟨.none, z1⟩, k1.at_new z2⟩, fun c hc => ?_, q⟩
    · rcases List.mem_cons.mp z with z | z
      · exact Nat.succ_ne_self _ z
      · exact absurd (l1 _ z) (Nat.not_lt.mpr (Nat.le_add_right _ 1))
    · have hle : s1.heap.objs.size ≤ c := by
        simp only [List.mem_cons, List.not_mem_nil, or_false] at hc
        rcases hc with rfl | rfl
        · exact Nat.le_add_right _ _
        · exact Nat.le_refl _
      exact I1.fpOk hle (I1.hok.fresh hle)
end Dl

/-! Z2: sets made of a list: set(xs), len(set(xs)), sorted(set(xs)); keys of one kind. -/
namespace Dl
open PySem PySem.Spec PyProof.Rows L2

def addK {K : Type} [DecidableEq K] (k : K) (ks : List K) : List K := if k ∈ ks then ks else ks ++ [k]
/-- without what comes again -/
def dd {K : Type} [DecidableEq K] (xs : List K) : List K := xs.foldl (fun ks k => addK k ks) []
section
variable {K : Type} [DecidableEq K]
theorem addK_len (k : K) (ks : List K) : (addK k ks).length ≤ ks.length + 1 := by
  unfold addK
  split
  · omega
  · rw [List.length_append]; exact Nat.le_refl _
theorem addK_mem {k x : K} {ks : List K} : x ∈ addK k ks ↔ x = k ∨ x ∈ ks := by
  unfold addK
  split
  · rename_i h
    exact ⟨.inr, fun z => z.elim (fun e => e ▸ h) id⟩
  · rw [List.mem_append, List.mem_singleton]
    exact Or.comm
theorem addK_nodup {k : K} {ks : List K} (h : ks.Nodup) : (addK k ks).Nodup := by
  unfold addK
  split
  · exact h
  · rename_i n
    refine List.nodup_append.mpr ⟨h, by simp, fun a ha b hb e => n ?_⟩
    rw [← List.mem_singleton.mp hb, ← e]
    exact ha
theorem dd_snoc (xs : List K) (k : K) : dd (xs ++ [k]) = addK k (dd xs) := by
  unfold dd
  rw [List.foldl_append]
  rfl
theorem dd_take {xs : List K} {i : Nat} {k : K} (h : xs[i]? = some k) : dd (xs.take (i + 1)) = addK k (dd (xs.take i)) := by
  rw [List.take_add_one, h]
  exact dd_snoc _ _
theorem dd_mem : ∀ (xs : List K) {x : K}, x ∈ dd xs ↔ x ∈ xs := by
  have main : ∀ (xs acc : List K) (x : K), x ∈ xs.foldl (fun ks k => addK k ks) acc ↔ x ∈ acc ∨ x ∈ xs := by
    intro xs
    induction xs with
    | nil => intro acc x; simp
    | cons y ys ih =>
      intro acc x
      rw [List.foldl_cons, ih, addK_mem, List.mem_cons]
      constructor
      · rintro ((h | h) | h)
        · exact .inr (.inl h)
        · exact .inl h
        · exact .inr (.inr h)
      · rintro (h | h | h)
        · exact .inl (.inr h)
        · exact .inl (.inl h)
        · exact .inr h
  intro xs x
  unfold dd
  rw [main]
  simp
theorem dd_nodup (xs : List K) : (dd xs).Nodup := by
  have main : ∀ (xs acc : List K), acc.Nodup → (xs.foldl (fun ks k => addK k ks) acc).Nodup := by
    intro xs
    induction xs with
    | nil => intro acc h; exact h
    | cons y ys ih => intro acc h; exact ih _ (addK_nodup h)
  exact main xs [] List.nodup_nil
theorem dd_len (xs : List K) : (dd xs).length ≤ xs.length := by
  have main : ∀ (xs acc : List K), (xs.foldl (fun ks k => addK k ks) acc).length ≤ acc.length + xs.length := by
    intro xs
    induction xs with
    | nil => intro acc; exact Nat.le_refl _
    | cons y ys ih =>
      intro acc
      have h1 := ih (addK y acc)
      have h2 := addK_len y acc
      rw [List.foldl_cons, List.length_cons]
      omega
  have := main xs []
  rwa [List.length_nil, Nat.zero_add] at this
end

section
variable {prog : Program} {w : World} {K : Type} [DecidableEq K] (knd : PySem.KeyKind prog w K) (kf : Value → K)
/-- the set at a holds just ks; it can be walked -/
def SetG (h : Heap) (a : Addr) (ks : List K) : Prop := ∃ o es ep t, h.get? a = some o ∧ o.ExactSet ∧ o.data = .set es ep t ∧ ElemsOf knd es.toList ∧ (es.toList.map fun e => kf e.2).Perm ks ∧ ks.Nodup ∧
  es.size < scanBound ∧ t.fits es.size = true ∧ Ris t.place.toList ∧ (w.params.followText "set-order" = true ∨ t.led = true)
variable {knd kf}
theorem SetG.at {h h' : Heap} {a : Addr} {ks : List K} (R : SetG knd kf h a ks) (k : ∀ o, h.get? a = some o → h'.get? a = some o) : SetG knd kf h' a ks := by
  obtain ⟨o, es, ep, t, ho, r⟩ := R
  exact ⟨o, es, ep, t, k o ho, r⟩
theorem SetG.len {h : Heap} {a : Addr} {ks : List K} (R : SetG knd kf h a ks) : ∃ o es ep t, h.get? a = some o ∧ o.ExactSet ∧ o.data = .set es ep t ∧ es.size = ks.length := by
  obtain ⟨o, es, ep, t, ho, hx, hd, _, pm, _⟩ := R
  refine ⟨o, es, ep, t, ho, hx, hd, ?_⟩
  rw [← pm.length_eq, List.length_map, Array.length_toList]
variable {A : Around} {E : Value → Shared → Prop} {s : Shared} {a : Addr} {ks : List K}
theorem SetG.size {h : Heap} (R : SetG knd kf h a ks) : ks.length < scanBound := by
  obtain ⟨o, es, ep, t, _, _, _, _, pm, _, sb, _⟩ := R
  rw [← pm.length_eq, List.length_map, Array.length_toList]
  exact sb
theorem addTailG {g : Bool → Sem Unit} (quiet : ∀ (b : Bool) (s₁ : Shared) (Q' : Unit → Shared → Prop), Q' () s₁ → wpAny (model prog w) A (g b) Q' E s₁)
    {o : Obj} {es : Array (Int × Value)} {ep : Nat} {t : SetTable} (ho : s.heap.get? a = some o) (hx : o.ExactSet) (hd : o.data = .set es ep t)
    {fs : Array (Int × Value)} {u : SetTable} (el : ElemsOf knd fs.toList) (pm : (fs.toList.map fun e => kf e.2).Perm ks) (nd : ks.Nodup) (sb : fs.size < scanBound) (ft : u.fits fs.size = true) (rs : Ris u.place.toList)
    (ld : w.params.followText "set-order" = true ∨ u.led = true) {dm : Bool} {R : Option Bool → Shared → Prop} (fin : ∀ h', Heap.SameBut a s.heap h' → SetG knd kf h' a ks → R (some true) { s with heap := h' }) :
    wpAny (model prog w) A (do
        storeSet a fs u
        if (!dm && u.tooFull) = true then do
            g (relayAll u fs (SetTable.grown fs.size)).2.2
            storeSet a (relayAll u fs (SetTable.grown fs.size)).1 (relayAll u fs (SetTable.grown fs.size)).2.1
            pure (some true)
          else pure (some true)) R E s := by
  refine wpAny_bind (wpAny_storeSet_of ho hd ?_ (fits_of_scanBound sb))
  have k1 := store_at (es' := fs) (t' := u) ho hd
  have b1 := Heap.SameBut.update s.heap a (Obj.putSet fs u)
  split
  · have r1 := relayAll_perm u fs (SetTable.grown fs.size)
    have r2 := relayAll_fits u fs (SetTable.grown fs.size)
    have r3 := relayAll_ris u fs (SetTable.grown fs.size)
    have r4 := relayAll_led u fs (SetTable.grown fs.size)
    generalize relayAll u fs (SetTable.grown fs.size) = Y at r1 r2 r3 r4 ⊢
    obtain ⟨gs, v, gave⟩ := Y
    dsimp only at r1 r2 r3 r4 ⊢
    have sz : gs.size = fs.size := by rw [← Array.length_toList, r1.length_eq, Array.length_toList]
    refine wpAny_bind (quiet _ _ _ ?_)
    refine wpAny_bind (wpAny_storeSet_of k1 rfl ?_ (fits_of_scanBound (by rw [sz]; exact sb)))
    have k2 := store_at (es' := gs) (t' := v) k1 rfl
    exact wpAny_pure (fin _ (b1.trans (Heap.SameBut.update _ a _)) ⟨_, gs, _, v, k2, hx, rfl, el.perm r1, (r1.map _).trans pm, nd, by rw [sz]; exact sb, r2, r3, ld.imp id fun z => by rw [r4]; exact z⟩)
  · exact wpAny_pure (fin _ b1 ⟨_, fs, _, u, k1, hx, rfl, el, pm, nd, sb, ft, rs, ld⟩)
theorem addG (hkf : ∀ k v, knd.is k v = true → kf v = k) {k : K} {v : Value} {Q : Bool → Shared → Prop} (R : SetG knd kf s.heap a ks) (room : ks.length + 1 < scanBound) (key : knd.is k v = true) (sc : v.scannable = true)
    (fin : ∀ b h', Heap.SameBut a s.heap h' → SetG knd kf h' a (addK k ks) → Q b { s with heap := h' }) : wpAny (model prog w) A (setAddHashed a v (knd.hash k)) Q E s := by
  obtain ⟨o, es, ep, t, ho, hx, hd, el, pm, nd, sb, ft, rs, ld⟩ := id R
  unfold setAddHashed setAddHashedIn
  refine wpAny_holding (wpAny_bind (wpAny_setState_of ho hd ft ?_))
  dsimp only
  rw [byScan_of sc sb el]
  simp only [↓reduceIte]
  unfold setAddByScan
  refine wpAny_bind (wpAny_bind (wpAny_rule ?_))
  refine wpAny_bind (wpAny_setScan_of key ho hd ft el ?_)
  have mem : k ∈ ks ↔ ∃ e ∈ es.toList, knd.is k e.2 = true := by
    rw [← pm.mem_iff, List.mem_map]
    constructor
    · rintro ⟨e, he, q⟩
      obtain ⟨⟨k', hk', _⟩, _⟩ := el e he
      rw [hkf _ _ hk'] at q
      exact ⟨e, he, q ▸ hk'⟩
    · rintro ⟨e, he, q⟩
      exact ⟨e, he, hkf _ _ q⟩
  cases fi : List.findIdx? (fun e => knd.is k e.2) es.toList with
  | some j =>
    dsimp only
    obtain ⟨hj, pj, _⟩ := List.findIdx?_eq_some_iff_getElem.mp fi
    have hm : k ∈ ks := mem.mpr ⟨es.toList[j], List.getElem_mem hj, pj⟩
    refine wpAny_pure (wpAny_pure ?_)
    exact fin _ s.heap (Heap.SameBut.refl a s.heap) (by unfold addK; rw [if_pos hm]; exact R)
  | none =>
    dsimp only
    have hm : k ∉ ks := fun z => by
      obtain ⟨e, he, q⟩ := mem.mp z
      have c := List.findIdx?_eq_none_iff.mp fi e he
      rw [q] at c
      cases c
    have quiet : ∀ (b : Bool) {s₁ : Shared} {Q' : Unit → Shared → Prop}, Q' () s₁ → wpAny (model prog w) A (match b with | true => rule "set.scan.the-table-gave-way" | false => pure ()) Q' E s₁ := by
      intro b s₁ Q' q
      cases b
      · exact wpAny_pure q
      · exact wpAny_rule q
    have p1 := layNew_perm t es (knd.hash k) v
    have p2 := layNew_fits t es (knd.hash k) v
    have p3 := layNew_ris t es (knd.hash k) v rs
    have p4 := layNew_led t es (knd.hash k) v
    generalize layNew t es (knd.hash k) v = Y at p1 p2 p3 p4 ⊢
    obtain ⟨fs, u, dm, gave⟩ := Y
    dsimp only at p1 p2 p3 p4 ⊢
    rw [Array.toList_push] at p1
    have el1 : ElemsOf knd fs.toList := fun e he => by
      rcases List.mem_append.mp (p1.mem_iff.mp he) with z | z
      · exact el e z
      · rw [List.mem_singleton.mp z]
        exact ⟨⟨k, key, rfl⟩, sc⟩
    have pm1 : (fs.toList.map fun e => kf e.2).Perm (addK k ks) := by
      unfold addK
      rw [if_neg hm]
      refine (p1.map _).trans ?_
      rw [List.map_append, List.map_singleton, hkf _ _ key]
      exact pm.append_right _
    have sz : fs.size = es.size + 1 := by rw [← Array.length_toList, p1.length_eq, List.length_append, Array.length_toList]; rfl
    have szk : es.size = ks.length := by rw [← pm.length_eq, List.length_map, Array.length_toList]
    have sb1 : fs.size < scanBound := by rw [sz, szk]; exact room
    have ld1 : w.params.followText "set-order" = true ∨ u.led = true := ld.imp id fun z => by rw [p4]; exact z
    refine wpAny_bind (quiet _ ?_)
    split
    · refine wpAny_bind ?_
      rw [hashByValue_scannable 8 sc]
      refine wpAny_pure ?_
      refine addTailG (knd := knd) (kf := kf) (ks := addK k ks) ?_ ho hx hd el1 pm1 (addK_nodup nd) sb1 ?_ ?_ ?_ ?_
      · intro b s₁ Q' q
        cases b
        · exact wpAny_pure q
        · exact wpAny_rule q
      · first | (split <;> first | exact p2 | exact SetTable.fits_plain_off p2) | exact p2
      · first | (split <;> exact p3) | exact p3
      · first | (split <;> exact ld1) | exact ld1
      · intro h' b r
        dsimp only
        exact wpAny_pure (fin _ h' b r)
    · refine wpAny_bind (wpAny_pure ?_)
      simp only [↓reduceIte]
      refine addTailG (knd := knd) (kf := kf) (ks := addK k ks) ?_ ho hx hd el1 pm1 (addK_nodup nd) sb1 p2 p3 ld1 ?_
      · intro b s₁ Q' q
        cases b
        · exact wpAny_pure q
        · exact wpAny_rule q
      · intro h' b r
        dsimp only
        exact wpAny_pure (fin _ h' b r)
end
section
variable {prog : Program} {w : World} {K : Type} [DecidableEq K] {knd : PySem.KeyKind prog w K} {kf : Value → K}
variable {A : Around} {R : Result → Shared → Prop} {I : Addr} {fp wr : List Addr} {G : Array GenState → Array GenState → Prop} {n : Nat} {P : Nat → Value → Prop} {St : Nat → Shared → Prop}
theorem loopG (hkf : ∀ k v, knd.is k v = true → kf v = k) (W : WalksS prog w A.in1 I fp wr G n P St) (S : Addr) (nS : S ∉ fp) (xs : List K) (hl : xs.length = n) (hb : n + 1 < scanBound)
    (hv : ∀ i v, P i v → ∃ k, xs[i]? = some k ∧ knd.is k v = true ∧ v.scannable = true) :
    ∀ (m i : Nat) (s : Shared), n - i = m → i ≤ n → St i s → SetG knd kf s.heap S (dd (xs.take i)) →
      (∀ s', Moved (S :: wr) G s s' → SetG knd kf s'.heap S (dd xs) → R (.ok (.ret .none)) s') →
      codeAny (model prog w) A (.builtin "set.update.loop" ⟨[.ref S, .ref I], []⟩) R s := by
  have nw : S ∉ wr := fun z => nS (W.sub _ z)
  have up : ∀ b ∈ wr, b ∈ S :: wr := fun b z => List.mem_cons_of_mem _ z
  intro m
  induction m with
  | zero =>
    intro i s hm hi st q fin
    have e : i = n := by omega
    subst e
    rw [← hl, List.take_length] at q
    refine codeAny_builtin PyProof.Rows.F.entry_set_update_loop ?_
    (rw [Around.under_plainId PyProof.Rows.F.plain_set_update_loop _]); (show wpAny _ A.in1 (pyNext (.ref I) >>= _) _ _ s)
    refine wpAny_bind (W.done s _ _ st fun s' mv => ?_)
    exact wpAny_pure (fin s' (mv.mono up) (q.at fun o e => mv.heap S _ nw e))
  | succ m ih =>
    intro i s hm hi st q fin
    have lt : i < n := by omega
    refine codeAny_builtin PyProof.Rows.F.entry_set_update_loop ?_
    (rw [Around.under_plainId PyProof.Rows.F.plain_set_update_loop _]); (show wpAny _ A.in1 (pyNext (.ref I) >>= _) _ _ s)
    refine wpAny_bind (W.item i s _ _ lt st fun v s' hP st' mv => ?_)
    obtain ⟨k, hk, key, sc⟩ := hv i v hP
    have q' : SetG knd kf s'.heap S (dd (xs.take i)) := q.at fun o e => mv.heap S _ nw e
    show wpAny _ A.in1 (holding [v] (setAdd S v) >>= _) _ _ s'
    refine wpAny_bind (wpAny_holding ?_)
    (unfold setAdd); (refine wpAny_holding (wpAny_bind (knd.pyHash (k := k) key ?_)))
    have room : (dd (xs.take i)).length + 1 < scanBound := by
      have h1 := dd_len (xs.take i)
      have h2 := List.length_take_le i xs
      omega
    refine addG (s := { s' with toks := s'.toks + 1 }) hkf q' room key sc fun b h' sb r => ?_
    rw [← dd_take hk] at r
    refine wpAny_pure ⟨plainId_quiet PyProof.Rows.F.plain_set_update_loop _, ih (i + 1) _ (by omega) lt (W.frame _ s' _ _ st' (Nat.le_succ _) fun c hc o e => ?_) r fun s2 mv2 q2 => ?_⟩
    · rw [sb.2 c (fun z : c = S => nS (z ▸ hc))]
      exact e
    · refine fin s2 (Moved.trans W.gtrans ((mv.mono up).then_heap (Nat.le_succ _) fun c o hc e => ?_) mv2) q2
      rw [sb.2 c (fun z : c = S => hc (by rw [z]; exact List.mem_cons_self))]
      exact e
end
section
variable {prog : Program} {w : World} {K : Type} [DecidableEq K] {knd : PySem.KeyKind prog w K} {kf : Value → K} {A : Around} {E : Value → Shared → Prop} {s : Shared}
/-- a new, empty set, whose order is told -/
theorem newG (x : Value) {Q₁ : Value → Shared → Prop}
    (h : Q₁ (.ref s.heap.objs.size) { s with heap := s.heap.push { cls := .type "set", dict := none, data := .set #[] 0 (.fresh 0 0 (!w.params.followText "set-order")) } }) :
    codeAny (model prog w) A (.call (.builtin "set.__new__") ⟨[.type "set", x], []⟩) (wants Q₁ E) s := by
  refine codeAny_of_tree ?_
  show wpAny _ A.in1 (do checkBuiltinCall "set.__new__" ⟨[.type "set", x], []⟩; again (.builtin "set.__new__" ⟨[.type "set", x], []⟩)) _ _ s
  refine wpAny_bind (wpAny_of_eq (PySem.F.newCall_set_1 x) (wpAny_pure ⟨plainId_quiet PySem.F.plain_set_new _, codeAny_builtin PySem.F.entry_set_new ?_⟩))
  (rw [Around.under_plainId PySem.F.plain_set_new _]); (unfold Builtin.«set.__new__» Builtin.Frozenset.newClass)
  have sub := sub_set_self
  obtain ⟨hp, gs, dr, tk, os⟩ := s
  dsimp only
  wp_walk
  refine wpAny_askSetting (wpAny_pure ?_)
  (dsimp only); (simp only [newObj]); (refine wpAny_bind (wpAny_alloc (wpAny_pure (wpAny_pure h))))
theorem freshG {h : Heap} : SetG (knd := knd) (kf := kf) (h.push { cls := .type "set", dict := none, data := .set #[] 0 (.fresh 0 0 (!w.params.followText "set-order")) }) h.objs.size [] := by
  refine ⟨_, #[], 0, _, Heap.get?_push_size _ rfl, ⟨rfl, rfl, rfl⟩, rfl, fun e he => by simp at he, List.Perm.refl _, List.nodup_nil, by decide, rfl, List.Pairwise.nil, ?_⟩
  show _ ∨ (!w.params.followText "set-order") = true
  cases w.params.followText "set-order"
  · exact .inr rfl
  · exact .inl rfl
set_option maxHeartbeats 3200000 in
theorem call_setG (hkf : ∀ k v, knd.is k v = true → kf v = k) {l : Addr} {its : Array Value} {xs : List K} {Q : Value → Shared → Prop} (hh : A.handled = none) (hl : s.heap.IsList l its) (hx : xs.length = its.size) (hb : xs.length + 1 < scanBound)
    (hv : ∀ (i : Nat) (v : Value), its[i]? = some v → ∃ k, xs[i]? = some k ∧ knd.is k v = true ∧ v.scannable = true)
    (h : ∀ (h' : Heap) (tk : Nat), SetG knd kf h' s.heap.objs.size (dd xs) → (∀ b o, s.heap.get? b = some o → h'.get? b = some o) → Q (.ref s.heap.objs.size) { s with heap := h', toks := tk }) :
    wpAny (model prog w) A (call (.type "set") [.ref l]) Q E s := by
  obtain ⟨c, tl, hmro⟩ := PySem.F.called_set.mro
  have mk := PySem.F.called_set.made
  have sb := PySem.F.called_set.sub
  refine wpAny_call (codeAny_of_tree ?_)
  show wpAny _ _ (callAny (.type "set") _) _ _ _
  refine wpAny_pure ⟨Code.quiet_builtin _ (by decide +kernel), codeAny_builtin PySem.F.entry_type_call ?_⟩
  rw [Around.under_plain (weight_type_call_type "set" [.ref l] []) rfl]
  have c1 := PySem.F.called_set.notType
  have c2 := PySem.F.called_set.canCreate
  have c3 := PySem.F.typeCall_set_1 (.ref l)
  repeat (any_goals (first | assumption | wp_step))
  refine codeAny_mono (newG (.ref l) (E := E) (Q₁ := fun x s₁ => x = .ref s.heap.objs.size ∧ s₁ = { s with heap := s.heap.push { cls := .type "set", dict := none, data := .set #[] 0 (.fresh 0 0 (!w.params.followText "set-order")) } }) ⟨rfl, rfl⟩) fun r s₁ hr => ?_
  cases r with
  | error e => exact hr
  | ok fl =>
    cases fl with
    | ret x =>
      obtain ⟨rfl, rfl⟩ := hr
      have g0 : SetG knd kf (s.heap.push { cls := .type "set", dict := none, data := .set #[] 0 (.fresh 0 0 (!w.params.followText "set-order")) }) s.heap.objs.size [] := freshG
      generalize (!w.params.followText "set-order") = led at g0 ⊢
      have hS : (s.heap.push { cls := .type "set", dict := none, data := .set #[] 0 (.fresh 0 0 led) }).get? s.heap.objs.size = some { cls := .type "set", dict := none, data := .set #[] 0 (.fresh 0 0 led) } := Heap.get?_push_size _ rfl
      have hT : Shared.TypeIs { s with heap := s.heap.push { cls := .type "set", dict := none, data := .set #[] 0 (.fresh 0 0 led) } } (.ref s.heap.objs.size) "set" := ⟨_, hS, rfl⟩
      have c4 := PySem.F.called_set.init.lookup
      have c5 := PySem.F.called_set.init.bind (.ref s.heap.objs.size)
      repeat (any_goals (first | assumption | wp_step))
      refine codeAny_mono (codeAny_call_builtin (R := wants (fun r s₂ => r = .none ∧ ∃ h' tk, s₂ = { s with heap := h', toks := tk } ∧ SetG knd kf h' s.heap.objs.size (dd xs) ∧ (∀ b o, s.heap.get? b = some o → h'.get? b = some o)) E)
        PySem.F.called_set.init.plain PySem.F.entry_set_init (check_set_init_1 hT ?_)) fun r₂ s₂ hr₂ => ?_
      · obtain ⟨ol, hol, hcl, nl, hdl⟩ := hl
        obtain ⟨ocls, odict, odata, oslots⟩ := ol
        simp only at hcl hdl
        subst hcl; subst hdl
        have hol' : (s.heap.push { cls := .type "set", dict := none, data := .set #[] 0 (.fresh 0 0 led) }).get? l = some { cls := .type "list", dict := odict, data := .seq its nl, slots := oslots } := Heap.get?_push_of_some _ hol
        have e1 := PySem.F.sub_list_set
        have e2 := PySem.F.sub_list_frozenset
        have e3 : (Value.type "list" == Value.type "dict") = false := by decide
        have hl1 : (s.heap.push { cls := .type "set", dict := none, data := .set #[] 0 (.fresh 0 0 led) }).IsList l its := ⟨_, hol', rfl, nl, rfl⟩
        unfold Builtin.«set.__init__» noKeywords Builtin.Frozenset.updateFrom
        generalize hPI : pyIter = PI
        wp_walk
        subst hPI
        refine wpAny_pyIter_list hl1 ?_
        refine wpAny_bind (wpAny_runValue ?_)
        have lS : l < s.heap.objs.size := Heap.lt_size hol
        have h3 : A.in1.in1.in1.handled = none := by simp [hh]
        have sz : (s.heap.push { cls := .type "set", dict := none, data := .set #[] 0 (.fresh 0 0 led) }).objs.size = s.heap.objs.size + 1 := Heap.size_push ..
        have neI : l ≠ (s.heap.push { cls := .type "set", dict := none, data := .set #[] 0 (.fresh 0 0 led) }).objs.size := by rw [sz]; exact Nat.ne_of_lt (Nat.lt_succ_of_lt lS)
        have nS : s.heap.objs.size ∉ [(s.heap.push { cls := .type "set", dict := none, data := .set #[] 0 (.fresh 0 0 led) }).objs.size, l] := by
          rw [sz]
          simp only [List.mem_cons, List.not_mem_nil, or_false, not_or]
          exact ⟨Nat.ne_of_lt (Nat.lt_succ_self _), Nat.ne_of_gt lS⟩
        refine loopG hkf ((Walks.list h3 _ l neI its).toS) s.heap.objs.size nS xs hx (by rw [← hx]; exact hb) hv (its.size - 0) 0 _ (by omega) (Nat.zero_le _) ⟨⟨_, Heap.get?_push_size _ rfl, rfl, rfl⟩, hl1.push _⟩ ?hS0 ?hR
        case hS0 => exact g0.at fun o e => Heap.get?_push_of_some _ e
        case hR =>
          intro s' mv q
          obtain ⟨h', g', d', tk', os'⟩ := s'
          have eg : g' = s.gens := mv.gens
          have ed : d' = s.drawn := mv.drawn
          have eo : os' = s.os := mv.os
          subst eg; subst ed; subst eo
          show wpAny _ _ _ _ _ _
          refine wpAny_pure ?_
          show wpAny _ _ (ret Value.none) _ _ _
          refine wpAny_pure ⟨rfl, h', tk', rfl, q, fun b o e => ?_⟩
          have lb : b < s.heap.objs.size := Heap.lt_size e
          exact mv.heap b o (by rw [sz]; simp only [List.mem_cons, List.not_mem_nil, or_false, not_or]; exact ⟨Nat.ne_of_lt lb, Nat.ne_of_lt (Nat.lt_succ_of_lt lb)⟩) (Heap.get?_push_of_some _ (Heap.get?_push_of_some _ e))
      · cases r₂ with
        | error e => exact hr₂
        | ok fl₂ =>
          cases fl₂ with
          | ret r =>
            obtain ⟨rfl, h', tk, rfl, q, kp⟩ := hr₂
            repeat (any_goals (first | assumption | wp_step))
            exact h _ _ q kp
          | _ => exact hr₂.elim
    | _ => exact hr.elim
end
end Dl

/-! D2: operations upon plain data, and that the model does them. -/
namespace Dl
open PySem PySem.Spec PyProof.Rows L2

/-! ### order of texts, sorting -/
def ltS (x y : Str) : Bool := ltCps x.cps.toList y.cps.toList
def insS (x : Str) : List Str → List Str
  | [] => [x]
  | y :: r => if ltS y x = true then y :: insS x r else x :: y :: r
def sortS : List Str → List Str
  | [] => []
  | x :: r => insS x (sortS r)
theorem ltC_irr : ∀ a : List Nat, ltCps a a = false
  | [] => rfl
  | a :: r => by simp [ltCps, ltC_irr r]
theorem ltC_trans : ∀ a b c : List Nat, ltCps a b = true → ltCps b c = true → ltCps a c = true
  | [], [], _, h, _ => by simp [ltCps] at h
  | [], _ :: _, [], _, h => by simp [ltCps] at h
  | [], _ :: _, _ :: _, _, _ => rfl
  | _ :: _, [], _, h, _ => by simp [ltCps] at h
  | _ :: _, _ :: _, [], _, h => by simp [ltCps] at h
  | x :: a, y :: b, z :: c, h, g => by
    simp only [ltCps, Bool.or_eq_true, decide_eq_true_eq, Bool.and_eq_true, beq_iff_eq] at h g ⊢
    rcases h with h | ⟨h1, h2⟩ <;> rcases g with g | ⟨g1, g2⟩
    · exact .inl (by omega)
    · exact .inl (by omega)
    · exact .inl (by omega)
    · exact .inr ⟨by omega, ltC_trans a b c h2 g2⟩
theorem ltC_tot : ∀ a b : List Nat, ltCps a b = false → ltCps b a = false → a = b
  | [], [], _, _ => rfl
  | [], _ :: _, h, _ => by simp [ltCps] at h
  | _ :: _, [], _, h => by simp [ltCps] at h
  | x :: a, y :: b, h, g => by
    simp only [ltCps, Bool.or_eq_false_iff, decide_eq_false_iff_not, Bool.and_eq_false_iff] at h g
    have e : x = y := by omega
    subst e
    rw [ltC_tot a b (by simpa using h.2) (by simpa using g.2)]
theorem ltS_irr (x : Str) : ltS x x = false := ltC_irr _
theorem ltS_trans {x y z : Str} (h : ltS x y = true) (g : ltS y z = true) : ltS x z = true := ltC_trans _ _ _ h g
theorem ltS_tot {x y : Str} (h : ltS x y = false) (g : ltS y x = false) : x = y := TL.ext_tl (ltC_tot _ _ h g)
theorem leS_trans {x y z : Str} (h : ltS y x = false) (g : ltS z y = false) : ltS z x = false := by
  cases q : ltS z x with
  | false => rfl
  | true =>
    cases w : ltS x y with
    | true => rw [ltS_trans q w] at g; cases g
    | false => rw [ltS_tot w h, g] at q; cases q
abbrev RisS (l : List Str) : Prop := l.Pairwise fun x y => ltS y x = false
theorem insS_perm (x : Str) : ∀ l : List Str, (insS x l).Perm (x :: l)
  | [] => List.Perm.refl _
  | y :: r => by
    unfold insS
    split
    · exact ((insS_perm x r).cons y).trans (List.Perm.swap x y r)
    · exact List.Perm.refl _
theorem sortS_perm : ∀ l : List Str, (sortS l).Perm l
  | [] => List.Perm.refl _
  | x :: r => (insS_perm x (sortS r)).trans ((sortS_perm r).cons x)
theorem insS_ris (x : Str) : ∀ l : List Str, RisS l → RisS (insS x l)
  | [], _ => List.pairwise_singleton _ _
  | y :: r, h => by
    unfold insS
    have h' := List.pairwise_cons.mp h
    split
    · rename_i hy
      refine List.pairwise_cons.mpr ⟨fun z hz => ?_, insS_ris x r h'.2⟩
      rcases List.mem_cons.mp ((insS_perm x r).mem_iff.mp hz) with rfl | hz
      · cases q : ltS z y with
        | false => rfl
        | true => have := ltS_trans hy q; rw [ltS_irr] at this; cases this
      · exact h'.1 z hz
    · rename_i hy
      have hy' : ltS y x = false := by simpa using hy
      refine List.pairwise_cons.mpr ⟨fun z hz => ?_, h⟩
      rcases List.mem_cons.mp hz with rfl | hz
      · exact hy'
      · exact leS_trans hy' (h'.1 z hz)
theorem sortS_ris : ∀ l : List Str, RisS (sortS l)
  | [] => List.Pairwise.nil
  | x :: r => insS_ris x _ (sortS_ris r)
theorem ris_unique : ∀ {l m : List Str}, RisS l → RisS m → l.Perm m → l = m
  | [], m, _, _, p => by rw [List.nil_perm.mp p]
  | x :: l, [], _, _, p => by have := p.length_eq; simp at this
  | x :: l, y :: m, h, g, p => by
    have h' := List.pairwise_cons.mp h
    have g' := List.pairwise_cons.mp g
    have e : x = y := by
      have hx : x ∈ y :: m := p.mem_iff.mp List.mem_cons_self
      have hy : y ∈ x :: l := p.mem_iff.mpr List.mem_cons_self
      rcases List.mem_cons.mp hx with e | hx
      · exact e
      rcases List.mem_cons.mp hy with e | hy
      · exact e.symm
      exact ltS_tot (g'.1 x hx) (h'.1 y hy)
    subst e
    rw [ris_unique h'.2 g'.2 (List.Perm.cons_inv p)]
theorem risingS_iff : ∀ (l : List Str) (x : Str), risingS x l = true ↔ RisS (x :: l)
  | [], x => by simp [risingS]
  | y :: r, x => by
    unfold risingS
    rw [Bool.and_eq_true, risingS_iff r y, Bool.not_eq_true']
    constructor
    · rintro ⟨h1, h2⟩
      have h2' := List.pairwise_cons.mp h2
      refine List.pairwise_cons.mpr ⟨fun z hz => ?_, h2⟩
      rcases List.mem_cons.mp hz with rfl | hz
      · exact h1
      · exact leS_trans h1 (h2'.1 z hz)
    · intro h
      have h' := List.pairwise_cons.mp h
      exact ⟨h'.1 y List.mem_cons_self, h'.2⟩
theorem sortedS_iff (l : List Str) : sortedS l = true ↔ RisS l := by
  cases l with
  | nil => simp [sortedS]
  | cons x r => exact risingS_iff r x
theorem sortS_of {ys xs : List Str} (p : ys.Perm xs) (h : sortedS ys = true) : ys = sortS xs :=
  ris_unique ((sortedS_iff ys).mp h) (sortS_ris xs) (p.trans (sortS_perm xs).symm)
def insI (x : Int) : List Int → List Int
  | [] => [x]
  | y :: r => if y < x then y :: insI x r else x :: y :: r
def sortI : List Int → List Int
  | [] => []
  | x :: r => insI x (sortI r)
theorem insI_perm (x : Int) : ∀ l : List Int, (insI x l).Perm (x :: l)
  | [] => List.Perm.refl _
  | y :: r => by
    unfold insI
    split
    · exact ((insI_perm x r).cons y).trans (List.Perm.swap x y r)
    · exact List.Perm.refl _
theorem sortI_perm : ∀ l : List Int, (sortI l).Perm l
  | [] => List.Perm.refl _
  | x :: r => (insI_perm x (sortI r)).trans ((sortI_perm r).cons x)
theorem insI_ris (x : Int) : ∀ l : List Int, l.Pairwise (· ≤ ·) → (insI x l).Pairwise (· ≤ ·)
  | [], _ => List.pairwise_singleton _ _
  | y :: r, h => by
    unfold insI
    have h' := List.pairwise_cons.mp h
    split
    · refine List.pairwise_cons.mpr ⟨fun z hz => ?_, insI_ris x r h'.2⟩
      rcases List.mem_cons.mp ((insI_perm x r).mem_iff.mp hz) with rfl | hz
      · omega
      · exact h'.1 z hz
    · refine List.pairwise_cons.mpr ⟨fun z hz => ?_, h⟩
      rcases List.mem_cons.mp hz with rfl | hz
      · omega
      · have := h'.1 z hz
        omega
theorem sortI_ris : ∀ l : List Int, (sortI l).Pairwise (· ≤ ·)
  | [] => List.Pairwise.nil
  | x :: r => insI_ris x _ (sortI_ris r)
theorem risI_unique : ∀ {l m : List Int}, l.Pairwise (· ≤ ·) → m.Pairwise (· ≤ ·) → l.Perm m → l = m
  | [], m, _, _, p => by rw [List.nil_perm.mp p]
  | x :: l, [], _, _, p => by have := p.length_eq; simp at this
  | x :: l, y :: m, h, g, p => by
    have h' := List.pairwise_cons.mp h
    have g' := List.pairwise_cons.mp g
    have e : x = y := by
      have hx : x ∈ y :: m := p.mem_iff.mp List.mem_cons_self
      have hy : y ∈ x :: l := p.mem_iff.mpr List.mem_cons_self
      rcases List.mem_cons.mp hx with e | hx
      · exact e
      rcases List.mem_cons.mp hy with e | hy
      · exact e.symm
      have h1 := g'.1 x hx
      have h2 := h'.1 y hy
      omega
    subst e
    rw [risI_unique h'.2 g'.2 (List.Perm.cons_inv p)]
theorem sortI_of {ys xs : List Int} (p : ys.Perm xs) (h : ys.Pairwise (· ≤ ·)) : ys = sortI xs := risI_unique h (sortI_ris xs) (p.trans (sortI_perm xs).symm)

/-! ### flat data -/
def flatD : Dat → Bool
  | .non => true
  | .bl _ => true
  | .int _ => true
  | .str _ => true
  | _ => false
def toV : Dat → V
  | .bl b => .bl b
  | .int i => .int i
  | .str x => .str x
  | _ => .non
theorem Den.flat {K : Kw} {H : Hp} {d : Dat} {v : V} (f : flatD d = true) (h : Den K H d v) : v = toV d := by
  cases d with
  | non => exact h
  | bl b => exact h
  | int i => exact h
  | str x => exact h.1
  | _ => exact absurd (show false = true from f) Bool.false_ne_true
theorem flatV_toV {d : Dat} (f : flatD d = true) : flatV (toV d) = true := by
  cases d with
  | non => rfl
  | bl b => rfl
  | int i => rfl
  | str x => rfl
  | _ => exact absurd (show false = true from f) Bool.false_ne_true
theorem DenL.flat {K : Kw} {H : Hp} : ∀ {ds : List Dat} {xs : List V}, ds.all flatD = true → DenL K H ds xs → xs = ds.map toV ∧ xs.all flatV = true
  | [], _, _, h => by cases h; exact ⟨rfl, rfl⟩
  | d :: ds, _, f, ⟨v, vs, e, h, r⟩ => by
    rw [List.all_cons, Bool.and_eq_true] at f
    obtain ⟨e1, e2⟩ := DenL.flat f.2 r
    have e3 := Den.flat f.1 h
    subst e
    refine ⟨by rw [List.map_cons, ← e3, ← e1], ?_⟩
    rw [List.all_cons, e2, e3, flatV_toV f.1]
    rfl
/-- == of flat data -/
def feq (d e : Dat) : Bool := eqV (toV d) (toV e)
theorem Seen.den {K : Kw} {F H : Hp} {d : Dat} {v : V} (f : flatD d = true) (h : Seen K F H d v) : Den K F d v := by
  cases d with
  | lst ds => exact absurd (show false = true from f) Bool.false_ne_true
  | dct ks vs => exact absurd (show false = true from f) Bool.false_ne_true
  | _ => exact h

/-! ### deep == -/
mutual
def toPy : Dat → PyData
  | .non => .none
  | .bl b => .bool b
  | .int i => .int i
  | .str x => .str x
  | .tup ds => .tuple (toPys ds)
  | .lst ds => .list (toPys ds)
  | .dct _ _ => .dict []
  | .fn _ _ => .dict []
def toPys : List Dat → List PyData
  | [] => []
  | d :: ds => toPy d :: toPys ds
end
theorem canAll_cons {d : PyData} {ds : List PyData} (h : PyData.canLayAll0 (d :: ds) = true) : d.canLay0 = true ∧ PyData.canLayAll0 ds = true := by
  unfold PyData.canLayAll0 at h
  exact Bool.and_eq_true_iff.mp h
mutual
theorem Den.dp {K : Kw} {H : Hp} : ∀ (d : Dat) {v : V}, (toPy d).canLay0 = true → Den K H d v → Dp K H v (toPy d)
  | .non, _, _, h => by cases h; exact .non
  | .bl _, _, _, h => by cases h; exact .bl _
  | .int _, _, _, h => by cases h; exact .int _
  | .str _, _, _, h => by cases h.1; exact .str _
  | .tup ds, _, c, ⟨a, xs, e, q, l, r⟩ => by
    subst e
    exact .tup q (DenL.dp ds (by unfold toPy PyData.canLay0 at c; exact c) r)
  | .lst ds, _, c, ⟨a, xs, e, q, l, r⟩ => by
    subst e
    exact .lst q (DenL.dp ds (by unfold toPy PyData.canLay0 at c; exact c) r)
  | .dct _ _, _, c, _ => by cases c
  | .fn _ _, _, _, h => h.elim
theorem DenL.dp {K : Kw} {H : Hp} : ∀ (ds : List Dat) {xs : List V}, PyData.canLayAll0 (toPys ds) = true → DenL K H ds xs → DpAll K H xs (toPys ds)
  | [], _, _, h => by cases h; exact .nil
  | d :: ds, _, c, ⟨v, vs, e, h, r⟩ => by
    subst e
    have c' := canAll_cons (d := toPy d) (ds := toPys ds) c
    exact .cons (Den.dp d c'.1 h) (DenL.dp ds c'.2 r)
end
/-- the whole datum in the heap itself -/
theorem Seen.full {K : Kw} {F H : Hp} (s : Same F H) {d : Dat} {v : V} (h : Seen K F H d v) : Den K H d v := by
  cases d with
  | lst ds =>
    obtain ⟨a, xs, e, q, l, r⟩ := h
    exact ⟨a, xs, e, q, l, DenL.mono s ds r⟩
  | dct ks vs =>
    obtain ⟨a, u, ws, zs, e, q, l, r1, r2⟩ := h
    exact ⟨a, u, ws, zs, e, q, l, DenL.mono s ks r1, DenL.mono s vs r2⟩
  | _ => exact Den.mono s _ h

/-! ### the forms of the rules -/
def rD1 (K : Kw) (f : Dat → Option Out) : V → Hp → VK → Prop := fun x H Q => ∃ F d o, Same F H ∧ Seen K F H d x ∧ f d = some o ∧ ∀ v H', NewOk K F H v H' o → Q v H'
def rD2 (K : Kw) (f : Dat → Dat → Option Out) : R2 := fun x y H Q => ∃ F d e o, Same F H ∧ Seen K F H d x ∧ Seen K F H e y ∧ f d e = some o ∧ ∀ v H', NewOk K F H v H' o → Q v H'
/-- a call's form -/
def rC1 (K : Kw) (f : Dat → Option Out) : List V → Hp → VK → Prop := fun xs H Q => ∃ x, xs = [x] ∧ rD1 K f x H Q
def rC2 (K : Kw) (f : Dat → Dat → Option Out) : List V → Hp → VK → Prop := fun xs H Q => ∃ x y, xs = [x, y] ∧ rD2 K f x y H Q
def rM1 (K : Kw) (f : Dat → Dat → Option Out) : V → List V → Hp → VK → Prop := fun x xs H Q => ∃ y, xs = [y] ∧ rD2 K f x y H Q

section
variable {K : Kw} {F H : Hp}
theorem new_int (s : Same F H) (i : Int) : NewOk K F H (.int i) H (.val (.int i)) := NewOk.same s rfl
theorem new_bl (s : Same F H) (b : Bool) : NewOk K F H (.bl b) H (.val (.bl b)) := NewOk.same s rfl
theorem new_non (s : Same F H) : NewOk K F H .non H (.val .non) := NewOk.same s rfl
theorem new_str (s : Same F H) {x : Str} (h : x.length ≤ sizeLine) : NewOk K F H (.str x) H (.val (.str x)) := NewOk.same s ⟨rfl, h⟩
end

/-! ### + - * // % ** -/
def semAdd : Dat → Dat → Option Out
  | .int i, .int j => some (.val (.int (i + j)))
  | .str x, .str y => if x.length + y.length ≤ sizeLine then some (.val (.str (x ++ y))) else none
  | .lst a, .lst b => if a.length + b.length ≤ sizeLine then some (.fresh (.lst (a ++ b))) else none
  | .tup a, .tup b => if a.isEmpty = false ∧ a.length + b.length ≤ sizeLine then some (.val (.tup (a ++ b))) else none
  | _, _ => none
def semSub : Dat → Dat → Option Out
  | .int i, .int j => some (.val (.int (i - j)))
  | _, _ => none
/-- a text again and again -/
def repS (x : Str) (n : Nat) : Str := ⟨(List.replicate n x.cps.toList).flatten.toArray⟩
def semMul : Dat → Dat → Option Out
  | .int i, .int j => if (-(2 ^ 64) < i ∧ i < 2 ^ 64) ∨ (-(2 ^ 64) < j ∧ j < 2 ^ 64) then some (.val (.int (i * j))) else none
  | .str x, .int n => if -(2 ^ 63) ≤ n ∧ n < 2 ^ 63 ∧ x.length * n.toNat ≤ sizeLine then some (.val (.str (repS x n.toNat))) else none
  | .lst ds, .int n => if -(2 ^ 63) ≤ n ∧ n < 2 ^ 63 ∧ ds.length * n.toNat ≤ sizeLine then some (.fresh (.lst (List.replicate n.toNat ds).flatten)) else none
  | .tup ds, .int n => if 0 ≤ n ∧ n ≤ 1000 ∧ ds.length ≤ 1000 ∧ ds.isEmpty = false then some (.val (.tup (List.replicate n.toNat ds).flatten)) else none
  | _, _ => none
def semDiv : Dat → Dat → Option Out
  | .int i, .int j => if 0 < j ∧ j < 1073741824 then some (.val (.int (i / j))) else none
  | _, _ => none
def semBor : Dat → Dat → Option Out
  | .int i, .int j => some (.val (.int (Builtin.bitOr i j)))
  | _, _ => none
def semMod : Dat → Dat → Option Out
  | .int i, .int j => if 0 < j then some (.val (.int (i % j))) else none
  | _, _ => none
def semPow : Dat → Dat → Option Out
  | .int i, .int j => if 0 ≤ j ∧ j ≤ 1000000 ∧ i.natAbs < 2 ^ 64 then some (.val (.int (i ^ j.toNat))) else none
  | _, _ => none

section
variable {X : Cx}
theorem ok_add : OpR X (binaryOp .Add) (rD2 X.kw semAdd) := by
  intro pins s σ H x y v u Q I rx ry h
  obtain ⟨F, d, e, o, sm, hd, he, ho, q⟩ := h
  unfold semAdd at ho
  split at ho
  · cases ho
    have hd : x = .int _ := hd
    have he : y = .int _ := he
    exact op_add pins s σ H x y v u Q I rx ry ⟨_, _, hd, he, q _ _ (new_int sm _)⟩
  · rename_i x' y'
    have hd : x = .str x' ∧ _ := hd
    have he : y = .str y' ∧ _ := he
    split at ho
    · rename_i hl
      cases ho
      exact op_add_str pins s σ H x y v u Q I rx ry ⟨_, _, hd.1, he.1, hl, q _ _ (new_str sm (by rw [TL.len_tl, TL.tl_append, List.length_append, ← TL.len_tl, ← TL.len_tl]; exact hl))⟩
    · cases ho
  · rename_i a b
    split at ho
    · rename_i hl
      cases ho
      obtain ⟨l, xs, rfl, hx, _, rx'⟩ := hd
      obtain ⟨l2, zs, rfl, hz, _, rz⟩ := he
      cases rx
      cases ry
      obtain ⟨its, r, p1, z1⟩ := I.list hx
      obtain ⟨its2, r2, p2, z2⟩ := I.list hz
      have hl1 := r.length
      have hl2 := r2.length
      have l1 := DenL.length rx'
      have l2' := DenL.length rz
      obtain ⟨⟨oc, dd, dt, sl⟩, n1, ho1, hc1, hd1, hq1⟩ := p1
      obtain ⟨⟨oc2, dd2, dt2, sl2⟩, n2, ho2, hc2, hd2, hq2⟩ := p2
      simp only at hc1 hq1 hc2 hq2
      subst hc1 hq1 hc2 hq2
      refine concat_meets ⟨_, ho1, rfl⟩ ⟨_, ho2, rfl⟩ noFill_list_add seq_list_add PySem.F.slot_list_add PySem.F.entry_list_add (PySem.F.args_list_add_2 _ _) (list_addW l l2 its.toArray its2.toArray n1 n2 dd dd2 sl sl2 (by rw [List.size_toArray, List.size_toArray]; omega)) ⟨ho1, ho2, ?_⟩
      rw [show its.toArray ++ its2.toArray = (its ++ its2).toArray from by simp]
      exact ⟨.ref _, _, I.lnew (t' := s.toks) (r.append r2) (by rw [List.length_append]; omega), rfl, q _ _ (NewOk.lst sm I.fresh (by rw [List.length_append]; omega) (DenL.app rx' rz))⟩
    · cases ho
  · rename_i a b
    split at ho
    · rename_i hl
      cases ho
      obtain ⟨l, xs, rfl, hx, lx, rx'⟩ := hd
      obtain ⟨l2, zs, rfl, hz, lz, rz⟩ := he
      have l1 := DenL.length rx'
      have l2' := DenL.length rz
      refine op_catT pins s σ H _ _ v u Q I rx ry ⟨l, l2, xs, zs, rfl, rfl, Same.seqT sm hx, Same.seqT sm hz, fun z => ?_, by omega, fun z => ?_, fun z p hp => ?_⟩
      · subst z
        cases a with
        | nil => exact absurd hl.1 (by decide)
        | cons a1 a2 => simp at l1
      · subst z
        have eb : b = [] := List.eq_nil_of_length_eq_zero (by simpa using l2')
        subst eb
        rw [List.append_nil] at q
        exact q _ _ (NewOk.same sm ⟨l, xs, rfl, hx, lx, rx'⟩)
      · exact q _ _ (NewOk.tup sm hp (by rw [List.length_append]; omega) (DenL.app rx' rz))
    · cases ho
  · cases ho
theorem ok_sub : OpR X (binaryOp .Sub) (rD2 X.kw semSub) := by
  intro pins s σ H x y v u Q I rx ry h
  obtain ⟨F, d, e, o, sm, hd, he, ho, q⟩ := h
  unfold semSub at ho
  split at ho
  · cases ho
    have hd : x = .int _ := hd
    have he : y = .int _ := he
    exact op_sub pins s σ H x y v u Q I rx ry ⟨_, _, hd, he, q _ _ (new_int sm _)⟩
  · cases ho
theorem repS_zero (x : Str) : repS x 0 = Str.empty := rfl
theorem repS_one (x : Str) : repS x 1 = x := by
  unfold repS
  simp
theorem foldl_cps : ∀ (n : Nat) (a : List Nat) (b : List Nat), (List.replicate n a.toArray).foldl (· ++ ·) b.toArray = (b ++ (List.replicate n a).flatten).toArray
  | 0, a, b => by simp
  | n + 1, a, b => by
    rw [List.replicate_succ, List.foldl_cons]
    have e : b.toArray ++ a.toArray = (b ++ a).toArray := by simp
    rw [e, foldl_cps n a (b ++ a), List.replicate_succ, List.flatten_cons, List.append_assoc]
theorem repS_eq (x : Str) (n : Nat) : (⟨(List.replicate n x.cps).foldl (· ++ ·) #[]⟩ : Str) = repS x n := by
  have h := foldl_cps n x.cps.toList []
  rw [List.nil_append] at h
  exact congrArg Str.mk h
theorem repS_len (x : Str) (n : Nat) : (repS x n).length = x.length * n := by
  show (List.replicate n x.cps.toList).flatten.toArray.size = _
  rw [List.size_toArray]
  induction n with
  | zero => simp
  | succ n ih =>
    rw [List.replicate_succ, List.flatten_cons, List.length_append, ih, Nat.mul_succ]
    show x.cps.toList.length + _ = _
    rw [Array.length_toList]
    show x.length + _ = _
    omega
theorem meets_lmul (l : Addr) (items : Array Value) (n : Nat) (dc : Option Addr) (sl : Array (Option Value)) (k : Int) (t : Tok) (c0 : ¬(!Builtin.List.listFitsIndex k) = true) (c1 : ¬items.size * k.toNat > (2 ^ 63 - 1) / 8) (c2 : ¬Builtin.List.listTooLong (items.size * k.toNat) = true) :
    Meets (Builtin.«list.__mul__» ⟨[.ref l, .int k t], []⟩) (fun _ R s => s.heap.get? l = some { cls := .type "list", dict := dc, data := .seq items n, slots := sl } ∧
      R (.ok (.ret (Value.ref s.heap.objs.size))) { s with heap := s.heap.push { cls := Value.type "list", data := Data.seq (List.foldl (fun x1 x2 => x1 ++ x2) #[] (List.replicate (if items.isEmpty = true then 0 else k.toNat) items)) }, toks := s.toks }) :=
  .of_wp fun prog w A R s h => by
    obtain ⟨hp, gs, dr, tk, os⟩ := s
    obtain ⟨hl, h⟩ := h
    have fits := AutoListH.joined_fits c2
    (wp_walk); (refine wpAny_ite_false (decide_eq_false (Nat.not_lt.mpr fits)) ?_); (wp_walk); exact ⟨_, rfl, h⟩
theorem meets_rmul (k : Int) (t : Tok) (l : Addr) (items : Array Value) (n : Nat) (dc : Option Addr) (sl : Array (Option Value)) :
    Meets (Builtin.«int.__rmul__» ⟨[.int k t, .ref l], []⟩) (fun _ R s => s.heap.get? l = some { cls := .type "list", dict := dc, data := .seq items n, slots := sl } ∧ R (.ok (.ret Value.notImplemented)) s) :=
  .of_wp fun prog w A R s h => by
    obtain ⟨hp, gs, dr, tk, os⟩ := s
    obtain ⟨hl, h⟩ := h
    (wp_walk); exact ⟨_, rfl, h⟩
theorem op_repL : OpR X (binaryOp .Mult) (fun x y H Q => ∃ a k xs, x = V.ref a ∧ y = V.int k ∧ SqL X.kw H a xs ∧ -(2 ^ 63) ≤ k ∧ k < 2 ^ 63 ∧ xs.length * k.toNat ≤ sizeLine ∧ ∀ p, H p = none → Q (.ref p) (upd H p (.lst (List.replicate k.toNat xs).flatten))) := by
  intro pins s σ H x y v u Q I rx ry h
  obtain ⟨a, k, xs, rfl, rfl, hs, k1, k2, kz, q⟩ := h
  cases rx
  obtain ⟨t, rfl⟩ := ry
  obtain ⟨its, rv, ⟨⟨cls, dc, data, sl⟩, n, ho, hc, hdn, hd⟩, hz⟩ := I.list hs
  have hc1 : cls = Value.type "list" := hc
  have hd1 : data = Data.seq its.toArray n := hd
  subst hc1 hd1
  have len : its.toArray.size * k.toNat ≤ sizeLine := by rw [List.size_toArray, ← rv.length]; exact kz
  have cap : ¬ its.toArray.size * k.toNat > (2 ^ 63 - 1) / 8 := by
    have : (sizeLine : Nat) ≤ (2 ^ 63 - 1) / 8 := by decide
    omega
  have fit : ¬ (!Builtin.List.listFitsIndex k) = true := by rw [fitsIndex_both k1 k2]; exact Bool.false_ne_true
  have long : ¬ Builtin.List.listTooLong (its.toArray.size * k.toNat) = true := by rw [notLongL len]; exact Bool.false_ne_true
  have new : List.foldl (fun x1 x2 => x1 ++ x2) #[] (List.replicate (if its.toArray.isEmpty = true then 0 else k.toNat) its.toArray) = (List.replicate k.toNat its).flatten.toArray := by
    have f0 : ∀ m : Nat, List.foldl (fun x1 x2 => x1 ++ x2) #[] (List.replicate m its.toArray) = (List.replicate m its).flatten.toArray := fun m => (foldl_rep its m []).trans (by rw [List.nil_append])
    rw [f0]
    cases its with
    | nil => simp
    | cons b r' => rw [if_neg (by simp)]
  refine wpAny_binaryOp_repeat_ref (T := "list") (U := "int") (by decide) ⟨_, ho, rfl⟩ (fun s' => typeIs_int s' k t) noFill_list_mul PySem.F.fills_int_mul PySem.F.slot_int_rmul repeat_list PySem.F.slot_int_index.lookup
    (call_meets PySem.F.slot_int_rmul (typeIs_int s k t) PySem.F.entry_int_rmul (PySem.F.args_int_rmul_2 _ _) (meets_rmul k t a its.toArray n dc sl)
      ⟨ho, rfl, ⟨_, ho, rfl⟩, call_meets PySem.F.slot_list_mul ⟨_, ho, rfl⟩ PySem.F.entry_list_mul (PySem.F.args_list_mul_2 _ _) (meets_lmul a its.toArray n dc sl k t fit cap long) ⟨ho, ?_⟩⟩)
  rw [new]
  exact ⟨.ref _, _, I.lnew (t' := s.toks) (rv.rep k.toNat) (by rw [PyProof.Rows.lm_len_rep_flat, Nat.mul_comm]; exact kz), rfl, q _ I.fresh⟩
theorem DenL.rep {K : Kw} {H : Hp} {ds : List Dat} {xs : List V} (h : DenL K H ds xs) : ∀ n, DenL K H (List.replicate n ds).flatten (List.replicate n xs).flatten
  | 0 => rfl
  | n + 1 => by
    rw [List.replicate_succ, List.replicate_succ, List.flatten_cons, List.flatten_cons]
    exact DenL.app h (DenL.rep h n)
theorem ok_mul : OpR X (binaryOp .Mult) (rD2 X.kw semMul) := by
  intro pins s σ H x y v u Q I rx ry h
  obtain ⟨F, d, e, o, sm, hd, he, ho, q⟩ := h
  unfold semMul at ho
  split at ho
  · split at ho
    · rename_i hc
      cases ho
      have hd : x = .int _ := hd
      have he : y = .int _ := he
      exact op_mul pins s σ H x y v u Q I rx ry ⟨_, _, hd, he, hc, q _ _ (new_int sm _)⟩
    · cases ho
  · rename_i z n
    split at ho
    · rename_i hc
      cases ho
      have hd : x = .str z ∧ _ := hd
      have he : y = .int n := he
      obtain ⟨rfl, hz⟩ := hd
      subst he
      obtain ⟨t, rfl⟩ := rx
      obtain ⟨t', rfl⟩ := ry
      obtain ⟨c1, c2, c3⟩ := hc
      have hs : sizeLine = 16777216 := sizeLine_eq
      have fin : ∀ (w' : Value) (k : Nat), RelV (.str (repS z n.toNat)) w' → EP X pins σ Q w' { s with toks := k } := fun w' k r => ⟨.str (repS z n.toNat), H, I.tok _, r, q _ _ (new_str sm (by rw [repS_len]; exact c3))⟩
      refine PySem.P.mul_str (by simp; omega) (fun h1 h2 h3 => ?_) (fun _ _ => decide_eq_false (by omega)) ?_
      · have h1' : 1 ≤ n := by omega
        have hb : (z.length : Int) ≤ (2 ^ 63 - 1) / n := by
          apply (Int.le_ediv_iff_mul_le (by omega)).mpr
          have e1 : ((z.length * n.toNat : Nat) : Int) = (z.length : Int) * n := by
            rw [Int.natCast_mul]
            congr 1
            omega
          rw [← e1]
          omega
        omega
      · by_cases h1 : n < 1
        · rw [if_pos h1]
          have e0 : n.toNat = 0 := by omega
          rw [e0, repS_zero] at fin
          exact ⟨by show (0 : Nat) ≤ sizeLine; omega, fin _ _ ⟨_, rfl⟩⟩
        · rw [if_neg h1]
          by_cases h2 : (n == 1 || z.length == 0) = true
          · rw [if_pos h2]
            have ee : repS z n.toNat = z := by
              rw [Bool.or_eq_true] at h2
              rcases h2 with h2 | h2
              · have : n = 1 := by simpa using h2
                subst this
                exact repS_one z
              · have : z.length = 0 := by simpa using h2
                apply TL.ext_tl
                have ez : z.cps.toList = [] := List.eq_nil_of_length_eq_zero (by rw [Array.length_toList]; exact this)
                show (List.replicate n.toNat z.cps.toList).flatten.toArray.toList = z.cps.toList
                rw [ez]
                simp
            rw [ee] at fin
            exact fin _ _ ⟨_, rfl⟩
          · rw [if_neg h2, repS_eq]
            exact ⟨by rw [repS_len]; exact c3, fin _ _ ⟨_, rfl⟩⟩
    · cases ho
  · rename_i ds n
    split at ho
    · rename_i hc
      cases ho
      obtain ⟨a, ys, rfl, hx, lx, r'⟩ := hd
      have he : y = .int n := he
      have len := DenL.length r'
      refine op_repL pins s σ H _ y v u Q I rx ry ⟨a, n, ys, rfl, he, hx, hc.1, hc.2.1, by rw [← len]; exact hc.2.2, fun p hp => q _ _ (NewOk.lst sm hp ?_ (DenL.rep r' n.toNat))⟩
      rw [PyProof.Rows.lm_len_rep_flat, Nat.mul_comm, ← len]
      exact hc.2.2
    · cases ho
  · rename_i ds n
    split at ho
    · rename_i hc
      cases ho
      obtain ⟨a, ys, rfl, hx, lx, r'⟩ := hd
      have he : y = .int n := he
      have len := DenL.length r'
      obtain ⟨h0, h1, h2, h3⟩ := hc
      refine op_mulT pins s σ H _ y v u Q I rx ry ⟨a, n, ys, rfl, he, Same.seqT sm hx, h0, h1, by omega, fun e => ?_, fun ne p hp => q _ _ (NewOk.tup sm hp ?_ (DenL.rep r' n.toNat)), fun z => ?_⟩
      · subst e
        refine q _ _ ⟨F, ⟨Same.refl F, sm, Same.refl H, fun b o e => .inl e⟩, a, ys, rfl, hx, lx, ?_⟩
        show DenL _ _ (List.replicate 1 ds).flatten ys
        simpa using r'
      · rw [PyProof.Rows.lm_len_rep_flat, sizeLine_eq]
        have a1 : n.toNat * ys.length ≤ 1000 * 1000 := Nat.mul_le_mul (by omega) (by omega)
        omega
      · rw [z] at len
        have : ds = [] := List.eq_nil_of_length_eq_zero len
        rw [this] at h3
        cases h3
    · cases ho
  · cases ho

theorem ok_div : OpR X (binaryOp .FloorDiv) (rD2 X.kw semDiv) := by
  intro pins s σ H x y v u Q I rx ry h
  obtain ⟨F, d, e, o, sm, hd, he, ho, q⟩ := h
  unfold semDiv at ho
  split at ho
  · split at ho
    · rename_i hc
      cases ho
      exact op_fdiv pins s σ H x y v u Q I rx ry ⟨_, _, hd, he, hc, q _ _ (new_int sm _)⟩
    · cases ho
  · cases ho
theorem ok_mod : OpR X (binaryOp .Mod) (rD2 X.kw semMod) := by
  intro pins s σ H x y v u Q I rx ry h
  obtain ⟨F, d, e, o, sm, hd, he, ho, q⟩ := h
  unfold semMod at ho
  split at ho
  · split at ho
    · rename_i hc
      cases ho
      exact op_mod pins s σ H x y v u Q I rx ry ⟨_, _, hd, he, hc, q _ _ (new_int sm _)⟩
    · cases ho
  · cases ho
theorem ok_bor : OpR X (binaryOp .BitOr) (rD2 X.kw semBor) := by
  intro pins s σ H x y v u Q I rx ry h
  obtain ⟨F, d, e, o, sm, hd, he, ho, q⟩ := h
  unfold semBor at ho
  split at ho
  · cases ho
    exact op_or pins s σ H x y v u Q I rx ry ⟨_, _, hd, he, q _ _ (new_int sm _)⟩
  · cases ho
theorem ok_pow : OpR X (binaryOp .Pow) (rD2 X.kw semPow) := by
  intro pins s σ H x y v u Q I rx ry h
  obtain ⟨F, d, e, o, sm, hd, he, ho, q⟩ := h
  unfold semPow at ho
  split at ho
  · split at ho
    · rename_i hc
      cases ho
      exact op_pow pins s σ H x y v u Q I rx ry ⟨_, _, hd, he, hc, q _ _ (new_int sm _)⟩
    · cases ho
  · cases ho
end

/-! ### comparisons -/
/-- == where it is known -/
def eqD (d e : Dat) : Option Bool :=
  match d, e with
  | .int i, .int j => some (decide (i = j))
  | .str x, .str y => some (decide (x = y))
  | .bl x, .bl y => some (decide (x = y))
  | d, e => if SeqAt.shaped (toPy d) = true ∧ SeqAt.shaped (toPy e) = true then some (PyData.eqv (toPy d) (toPy e)) else none
def semEq (d e : Dat) : Option Out := (eqD d e).map fun b => .val (.bl b)
def semNe (d e : Dat) : Option Out := (eqD d e).map fun b => .val (.bl (!b))
def semLt : Dat → Dat → Option Out
  | .int i, .int j => some (.val (.bl (decide (i < j))))
  | .str x, .str y => some (.val (.bl (ltS x y)))
  | _, _ => none
def semLe : Dat → Dat → Option Out
  | .int i, .int j => some (.val (.bl (decide (i ≤ j))))
  | .str x, .str y => some (.val (.bl (!ltS y x)))
  | _, _ => none
def semGt (d e : Dat) : Option Out := semLt e d
def semGe (d e : Dat) : Option Out := semLe e d
def semIs : Dat → Dat → Option Out
  | .bl x, .bl y => some (.val (.bl (decide (x = y))))
  | .non, .non => some (.val (.bl true))
  | _, .non => some (.val (.bl false))
  | _, _ => none
def semIsNot : Dat → Dat → Option Out
  | .bl x, .bl y => some (.val (.bl (!decide (x = y))))
  | .non, .non => some (.val (.bl false))
  | _, .non => some (.val (.bl true))
  | _, _ => none
/-- c in s, texts -/
def inS (x y : Str) : Bool :=
  match x.cps.toList with
  | [c] => decide (c ∈ y.cps.toList)
  | _ => !(Builtin.Str.occurrences y x 0 y.length 1).isEmpty
def inD (d e : Dat) : Option Bool :=
  match d, e with
  | .str x, .str y => some (inS x y)
  | d, .lst es => if flatD d = true ∧ es.all flatD = true then some (es.any fun z => feq z d) else none
  | d, .tup es => if flatD d = true ∧ es.all flatD = true then some (es.any fun z => feq z d) else none
  | d, .dct ks _ => if okey ks d = true then some (hasK d ks) else none
  | _, _ => none
def semIn (d e : Dat) : Option Out := (inD d e).map fun b => .val (.bl b)
def semNotIn (d e : Dat) : Option Out := (inD d e).map fun b => .val (.bl (!b))

theorem decVI (i j : Int) : decide (V.int i = V.int j) = decide (i = j) := by rw [dec_int, Bool.beq_eq_decide_eq]
theorem decVS (i j : Str) : decide (V.str i = V.str j) = decide (i = j) := by rw [dec_str, Bool.beq_eq_decide_eq]
theorem decVB (i j : Bool) : decide (V.bl i = V.bl j) = decide (i = j) := by rw [dec_bl, Bool.beq_eq_decide_eq]
section
variable {X : Cx}
theorem ok_eq (hu : X.A.units + 64 < cLine) : OpR X (compareOp .Eq) (rD2 X.kw semEq) := by
  intro pins s σ H x y v u Q I rx ry h
  obtain ⟨F, d, e, o, sm, hd, he, ho, q⟩ := h
  unfold semEq at ho
  cases hb : eqD d e with
  | none => rw [hb] at ho; cases ho
  | some b =>
    rw [hb] at ho
    cases ho
    unfold eqD at hb
    split at hb
    · cases hb
      have hd : x = .int _ := hd
      have he : y = .int _ := he
      subst hd he
      refine op_eq pins s σ H _ _ v u Q I rx ry ⟨rfl, ?_⟩
      rw [decVI]
      exact q _ _ (new_bl sm _)
    · cases hb
      have hd : x = .str _ ∧ _ := hd
      have he : y = .str _ ∧ _ := he
      obtain ⟨rfl, _⟩ := hd
      obtain ⟨rfl, _⟩ := he
      refine op_eq pins s σ H _ _ v u Q I rx ry ⟨rfl, ?_⟩
      rw [decVS]
      exact q _ _ (new_bl sm _)
    · cases hb
      have hd : x = .bl _ := hd
      have he : y = .bl _ := he
      subst hd he
      refine op_eq pins s σ H _ _ v u Q I rx ry ⟨rfl, ?_⟩
      rw [decVB]
      exact q _ _ (new_bl sm _)
    · split at hb
      · rename_i hs
        cases hb
        exact op_eqD hu pins s σ H x y v u Q I rx ry ⟨_, _, Den.dp d (SeqAt.canLay_of_shaped hs.1) (Seen.full sm hd), Den.dp e (SeqAt.canLay_of_shaped hs.2) (Seen.full sm he), hs.1, hs.2, q _ _ (new_bl sm _)⟩
      · cases hb
theorem ok_ne (hu : X.A.units + 64 < cLine) : OpR X (compareOp .NotEq) (rD2 X.kw semNe) := by
  intro pins s σ H x y v u Q I rx ry h
  obtain ⟨F, d, e, o, sm, hd, he, ho, q⟩ := h
  unfold semNe at ho
  cases hb : eqD d e with
  | none => rw [hb] at ho; cases ho
  | some b =>
    rw [hb] at ho
    cases ho
    unfold eqD at hb
    split at hb
    · cases hb
      have hd : x = .int _ := hd
      have he : y = .int _ := he
      subst hd he
      refine op_ne pins s σ H _ _ v u Q I rx ry ⟨rfl, ?_⟩
      rw [decVI]
      exact q _ _ (new_bl sm _)
    · cases hb
      have hd : x = .str _ ∧ _ := hd
      have he : y = .str _ ∧ _ := he
      obtain ⟨rfl, _⟩ := hd
      obtain ⟨rfl, _⟩ := he
      refine op_ne pins s σ H _ _ v u Q I rx ry ⟨rfl, ?_⟩
      rw [decVS]
      exact q _ _ (new_bl sm _)
    · cases hb
      have hd : x = .bl _ := hd
      have he : y = .bl _ := he
      subst hd he
      refine op_ne pins s σ H _ _ v u Q I rx ry ⟨rfl, ?_⟩
      rw [decVB]
      exact q _ _ (new_bl sm _)
    · split at hb
      · rename_i hs
        cases hb
        exact op_neD hu pins s σ H x y v u Q I rx ry ⟨_, _, Den.dp d (SeqAt.canLay_of_shaped hs.1) (Seen.full sm hd), Den.dp e (SeqAt.canLay_of_shaped hs.2) (Seen.full sm he), hs.1, hs.2, q _ _ (new_bl sm _)⟩
      · cases hb
theorem ok_lt : OpR X (compareOp .Lt) (rD2 X.kw semLt) := by
  intro pins s σ H x y v u Q I rx ry h
  obtain ⟨F, d, e, o, sm, hd, he, ho, q⟩ := h
  unfold semLt at ho
  split at ho
  · cases ho
    exact op_lt pins s σ H x y v u Q I rx ry ⟨_, _, hd, he, q _ _ (new_bl sm _)⟩
  · cases ho
    refine op_lt_str pins s σ H x y v u Q I rx ry ⟨_, _, hd.1, he.1, ?_⟩
    rw [← ltCps_eq]
    exact q _ _ (new_bl sm _)
  · cases ho
theorem ok_gt : OpR X (compareOp .Gt) (rD2 X.kw semGt) := by
  intro pins s σ H x y v u Q I rx ry h
  obtain ⟨F, d, e, o, sm, hd, he, ho, q⟩ := h
  unfold semGt semLt at ho
  split at ho
  · cases ho
    exact op_gt pins s σ H x y v u Q I rx ry ⟨_, _, hd, he, q _ _ (new_bl sm _)⟩
  · cases ho
    refine op_gt_str pins s σ H x y v u Q I rx ry ⟨_, _, hd.1, he.1, ?_⟩
    rw [← ltCps_eq]
    exact q _ _ (new_bl sm _)
  · cases ho
theorem ok_le : OpR X (compareOp .LtE) (rD2 X.kw semLe) := by
  intro pins s σ H x y v u Q I rx ry h
  obtain ⟨F, d, e, o, sm, hd, he, ho, q⟩ := h
  unfold semLe at ho
  split at ho
  · cases ho
    exact op_le pins s σ H x y v u Q I rx ry ⟨_, _, hd, he, q _ _ (new_bl sm _)⟩
  · cases ho
    refine op_le_str pins s σ H x y v u Q I rx ry ⟨_, _, hd.1, he.1, ?_⟩
    rw [← ltCps_eq]
    exact q _ _ (new_bl sm _)
  · cases ho
theorem ok_ge : OpR X (compareOp .GtE) (rD2 X.kw semGe) := by
  intro pins s σ H x y v u Q I rx ry h
  obtain ⟨F, d, e, o, sm, hd, he, ho, q⟩ := h
  unfold semGe semLe at ho
  split at ho
  · cases ho
    exact op_ge pins s σ H x y v u Q I rx ry ⟨_, _, hd, he, q _ _ (new_bl sm _)⟩
  · cases ho
    refine op_ge_str pins s σ H x y v u Q I rx ry ⟨_, _, hd.1, he.1, ?_⟩
    rw [← ltCps_eq]
    exact q _ _ (new_bl sm _)
  · cases ho
theorem Seen.notNon {K : Kw} {F H : Hp} {d : Dat} {v : V} (h : Seen K F H d v) (n : d ≠ .non) : v ≠ .non := by
  cases d with
  | non => exact absurd rfl n
  | bl b => intro e; rw [show v = _ from h] at e; cases e
  | int b => intro e; rw [show v = _ from h] at e; cases e
  | str b => intro e; rw [h.1] at e; cases e
  | tup ds => obtain ⟨a, xs, e', _⟩ := h; intro e; rw [e'] at e; cases e
  | lst ds => obtain ⟨a, xs, e', _⟩ := h; intro e; rw [e'] at e; cases e
  | dct ks vs => obtain ⟨a, _, _, _, e', _⟩ := h; intro e; rw [e'] at e; cases e
  | fn c ds => exact h.elim
theorem ok_is : OpR X (compareOp .Is) (rD2 X.kw semIs) := by
  intro pins s σ H x y v u Q I rx ry h
  obtain ⟨F, d, e, o, sm, hd, he, ho, q⟩ := h
  unfold semIs at ho
  split at ho
  · cases ho
    exact op_isBl pins s σ H x y v u Q I rx ry ⟨_, _, hd, he, q _ _ (new_bl sm _)⟩
  · cases ho
    refine op_isN pins s σ H x y v u Q I rx ry ⟨he, ?_⟩
    rw [decide_eq_true (show x = .non from hd)]
    exact q _ _ (new_bl sm _)
  · rename_i hn
    cases ho
    refine op_isN pins s σ H x y v u Q I rx ry ⟨he, ?_⟩
    rw [decide_eq_false (Seen.notNon hd hn)]
    exact q _ _ (new_bl sm _)
  · cases ho
theorem ok_isNot : OpR X (compareOp .IsNot) (rD2 X.kw semIsNot) := by
  intro pins s σ H x y v u Q I rx ry h
  obtain ⟨F, d, e, o, sm, hd, he, ho, q⟩ := h
  unfold semIsNot at ho
  split at ho
  · cases ho
    exact op_notBl pins s σ H x y v u Q I rx ry ⟨_, _, hd, he, q _ _ (new_bl sm _)⟩
  · cases ho
    refine op_notN pins s σ H x y v u Q I rx ry ⟨he, ?_⟩
    rw [decide_eq_true (show x = .non from hd)]
    exact q _ _ (new_bl sm _)
  · rename_i hn
    cases ho
    refine op_notN pins s σ H x y v u Q I rx ry ⟨he, ?_⟩
    rw [decide_eq_false (Seen.notNon hd hn)]
    exact q _ _ (new_bl sm _)
  · cases ho
theorem any_feq {d : Dat} : ∀ es : List Dat, (es.map toV).any (fun y => eqV y (toV d)) = es.any fun z => feq z d
  | [] => rfl
  | e :: es => by rw [List.map_cons, List.any_cons, List.any_cons, any_feq es]; rfl
theorem one_sign {x : Str} {c : Nat} (h : x.cps.toList = [c]) : x = ⟨#[c]⟩ := TL.ext_tl h
theorem ok_in (hu : X.A.units + 64 < cLine) : OpR X (compareOp .In) (rD2 X.kw semIn) := by
  intro pins s σ H x y v u Q I rx ry h
  obtain ⟨F, d, e, o, sm, hd, he, ho, q⟩ := h
  unfold semIn at ho
  cases hb : inD d e with
  | none => rw [hb] at ho; cases ho
  | some b =>
    rw [hb] at ho
    cases ho
    unfold inD at hb
    split at hb
    · rename_i x' y'
      cases hb
      have hd : x = .str x' ∧ _ := hd
      have he : y = .str y' ∧ _ := he
      unfold inS at q
      split at q
      · rename_i c hc
        exact op_in_sign pins s σ H x y v u Q I rx ry ⟨c, y', by rw [hd.1, one_sign hc], he.1, q _ _ (new_bl sm _)⟩
      · exact op_in_str pins s σ H x y v u Q I rx ry ⟨_, _, hd.1, he.1, q _ _ (new_bl sm _)⟩
    · rename_i es
      split at hb
      · rename_i hf
        cases hb
        obtain ⟨a, xs, rfl, hx, lx, r⟩ := he
        have ed := Den.flat hf.1 (Seen.den hf.1 hd)
        obtain ⟨e1, e2⟩ := DenL.flat hf.2 r
        refine op_in_seq pins s σ H _ _ v u Q I rx ry ⟨a, xs, rfl, .inl hx, by rw [ed]; exact flatV_toV hf.1, e2, ?_⟩
        rw [show inV x xs = es.any fun z => feq z d from by unfold inV; rw [e1, ed, any_feq]]
        exact q _ _ (new_bl sm _)
      · cases hb
    · rename_i es
      split at hb
      · rename_i hf
        cases hb
        obtain ⟨a, xs, rfl, hx, lx, r⟩ := he
        have ed := Den.flat hf.1 (Seen.den hf.1 hd)
        obtain ⟨e1, e2⟩ := DenL.flat hf.2 r
        refine op_in_seq pins s σ H _ _ v u Q I rx ry ⟨a, xs, rfl, .inr (Same.seqT sm hx), by rw [ed]; exact flatV_toV hf.1, e2, ?_⟩
        rw [show inV x xs = es.any fun z => feq z d from by unfold inV; rw [e1, ed, any_feq]]
        exact q _ _ (new_bl sm _)
      · cases hb
    · rename_i ks vs _
      split at hb
      · rename_i hf
        cases hb
        exact d_in_ok hu I sm he hd hf ry rx fun s' I' => ⟨.bl _, H, I', rfl, q _ _ (new_bl sm _)⟩
      · cases hb
    · cases hb
theorem ok_notIn (hu : X.A.units + 64 < cLine) : OpR X (compareOp .NotIn) (rD2 X.kw semNotIn) := by
  intro pins s σ H x y v u Q I rx ry h
  obtain ⟨F, d, e, o, sm, hd, he, ho, q⟩ := h
  unfold semNotIn at ho
  cases hb : inD d e with
  | none => rw [hb] at ho; cases ho
  | some b =>
    rw [hb] at ho
    cases ho
    unfold inD at hb
    split at hb
    · rename_i x' y'
      cases hb
      have hd : x = .str x' ∧ _ := hd
      have he : y = .str y' ∧ _ := he
      unfold inS at q
      split at q
      · rename_i c hc
        exact op_notIn_sign pins s σ H x y v u Q I rx ry ⟨c, y', by rw [hd.1, one_sign hc], he.1, q _ _ (new_bl sm _)⟩
      · exact op_notin_str pins s σ H x y v u Q I rx ry ⟨_, _, hd.1, he.1, q _ _ (new_bl sm _)⟩
    · rename_i es
      split at hb
      · rename_i hf
        cases hb
        obtain ⟨a, xs, rfl, hx, lx, r⟩ := he
        have ed := Den.flat hf.1 (Seen.den hf.1 hd)
        obtain ⟨e1, e2⟩ := DenL.flat hf.2 r
        refine op_notIn_seq pins s σ H _ _ v u Q I rx ry ⟨a, xs, rfl, .inl hx, by rw [ed]; exact flatV_toV hf.1, e2, ?_⟩
        rw [show inV x xs = es.any fun z => feq z d from by unfold inV; rw [e1, ed, any_feq]]
        exact q _ _ (new_bl sm _)
      · cases hb
    · rename_i es
      split at hb
      · rename_i hf
        cases hb
        obtain ⟨a, xs, rfl, hx, lx, r⟩ := he
        have ed := Den.flat hf.1 (Seen.den hf.1 hd)
        obtain ⟨e1, e2⟩ := DenL.flat hf.2 r
        refine op_notIn_seq pins s σ H _ _ v u Q I rx ry ⟨a, xs, rfl, .inr (Same.seqT sm hx), by rw [ed]; exact flatV_toV hf.1, e2, ?_⟩
        rw [show inV x xs = es.any fun z => feq z d from by unfold inV; rw [e1, ed, any_feq]]
        exact q _ _ (new_bl sm _)
      · cases hb
    · rename_i ks vs _
      split at hb
      · rename_i hf
        cases hb
        exact d_notIn_ok hu I sm he hd hf ry rx fun s' I' => ⟨.bl _, H, I', rfl, q _ _ (new_bl sm _)⟩
      · cases hb
    · cases hb
end

/-! ### xs[i], xs[a:b] -/
def semAt : Dat → Dat → Option Out
  | .lst ds, .int i => (atI ds i).map .val
  | .tup ds, .int i => (atI ds i).map .val
  | .str x, .int i => (atI x.cps.toList i).map fun c => .val (.str ⟨#[c]⟩)
  | .dct ks vs, k => if okey ks k = true then (getV k ks vs).map .val else none
  | _, _ => none
def cutL {α : Type} (xs : List α) (lo hi : Option Int) : List α := (xs.drop (HT.sIx xs.length 0 lo)).take (HT.sIx xs.length xs.length hi - HT.sIx xs.length 0 lo)
def semCut (d : Dat) (lo hi : Option Int) : Option Out :=
  match d with
  | .lst ds => some (.fresh (.lst (cutL ds lo hi)))
  | .str x => some (.val (.str (cutS x lo hi)))
  | .tup ds => if HT.sIx ds.length 0 lo = 0 ∧ HT.sIx ds.length ds.length hi = ds.length then none else some (.val (.tup (cutL ds lo hi)))
  | _ => none
def semRev : Dat → Option Out
  | .lst ds => some (.fresh (.lst ds.reverse))
  | _ => none
theorem DenL.cut {K : Kw} {H : Hp} {ds : List Dat} {xs : List V} (h : DenL K H ds xs) (lo hi : Option Int) : DenL K H (cutL ds lo hi) (cutV xs lo hi) := by
  unfold cutL cutV
  rw [h.length]
  exact DenL.take _ (DenL.drop _ h)
theorem atI_len {α β : Type} {xs : List α} {ys : List β} (h : xs.length = ys.length) (i : Int) : (ixN xs.length i) = ixN ys.length i := by rw [h]
theorem DenL.at {K : Kw} {H : Hp} {ds : List Dat} {xs : List V} {i : Int} {d : Dat} (h : DenL K H ds xs) (e : atI ds i = some d) : ∃ x, atI xs i = some x ∧ Den K H d x := by
  unfold atI at e ⊢
  rw [← h.length]
  cases hq : ixN ds.length i with
  | none => rw [hq] at e; cases e
  | some j =>
    rw [hq] at e
    obtain ⟨x, hx, q⟩ := DenL.getD h (show ds[j]? = some d from e)
    exact ⟨x, hx, q⟩
section
variable {X : Cx}
theorem ok_at (hu : X.A.units + 64 < cLine) : IxR X (rD2 X.kw semAt) := by
  intro value slice pins s σ H x y v u Q I rx ry h hs
  obtain ⟨F, d, e, o, sm, hd, he, ho, q⟩ := h
  unfold semAt at ho
  split at ho
  · rename_i ds i
    cases ha : atI ds i with
    | none => rw [ha] at ho; cases ho
    | some z =>
      rw [ha] at ho
      cases ho
      obtain ⟨a, xs, rfl, hx, lx, r⟩ := hd
      obtain ⟨w, hw, dw⟩ := DenL.at r ha
      exact ix_list value slice pins s σ H _ _ v u Q I rx ry ⟨a, xs, i, w, rfl, he, hx, hw, q _ _ (NewOk.same sm dw)⟩ hs
  · rename_i ds i
    cases ha : atI ds i with
    | none => rw [ha] at ho; cases ho
    | some z =>
      rw [ha] at ho
      cases ho
      obtain ⟨a, xs, rfl, hx, lx, r⟩ := hd
      obtain ⟨w, hw, dw⟩ := DenL.at r ha
      exact ix_tup value slice pins s σ H _ _ v u Q I rx ry ⟨a, xs, i, w, rfl, he, Same.seqT sm hx, hw, q _ _ (NewOk.same sm dw)⟩ hs
  · rename_i z i
    cases ha : atI z.cps.toList i with
    | none => rw [ha] at ho; cases ho
    | some c =>
      rw [ha] at ho
      cases ho
      exact ix_str value slice pins s σ H _ _ v u Q I rx ry ⟨z, i, c, hd.1, he, hd.2, ha, q _ _ (new_str sm (by show (1 : Nat) ≤ sizeLine; decide))⟩ hs
  · rename_i ks vs
    split at ho
    · rename_i hok
      cases hg : getV e ks vs with
      | none => rw [hg] at ho; cases ho
      | some z =>
        rw [hg] at ho
        cases ho
        exact tail_any (d_type I hd rx) PySem.F.slot_dict_getitem.lookup (d_at hu I sm hd he hok rx ry hg fun w w' s' I' r' dw => ⟨w, H, I', r', q _ _ (NewOk.same sm dw)⟩) hs
    · cases ho
  · cases ho
def rCut (K : Kw) : V → Option Int → Option Int → Hp → VK → Prop := fun x lo hi H Q => ∃ F d o, Same F H ∧ Seen K F H d x ∧ semCut d lo hi = some o ∧ ∀ v H', NewOk K F H v H' o → Q v H'
theorem ok_cut : SlR X (rCut X.kw) := by
  intro pins s σ H x v vl vu lo hi sl Q I rx hs pl pu h
  obtain ⟨F, d, o, sm, hd, ho, q⟩ := h
  unfold semCut at ho
  split at ho
  · cases ho
    obtain ⟨a, xs, rfl, hx, lx, r⟩ := hd
    exact sl_list pins s σ H _ v vl vu lo hi sl Q I rx hs pl pu ⟨a, xs, rfl, hx, fun p hp => q _ _ (NewOk.lst sm hp (Nat.le_trans (cutV_length xs lo hi) lx) (DenL.cut r lo hi))⟩
  · cases ho
    exact sl_str pins s σ H _ v vl vu lo hi sl Q I rx hs pl pu ⟨_, hd.1, hd.2, q _ _ (new_str sm (Nat.le_trans (cutS_length _ lo hi) hd.2))⟩
  · split at ho
    · cases ho
    · rename_i hn
      cases ho
      obtain ⟨a, xs, rfl, hx, lx, r⟩ := hd
      exact sl_tup pins s σ H _ v vl vu lo hi sl Q I rx hs pl pu ⟨a, xs, rfl, Same.seqT sm hx, by rw [← DenL.length r]; exact hn, fun p hp => q _ _ (NewOk.tup sm hp (Nat.le_trans (cutV_length xs lo hi) lx) (DenL.cut r lo hi))⟩
  · cases ho
end

/-! ### x[lo::st] -/
def stepI (n : Nat) (lo : Option Int) (st : Int) : List Nat := Builtin.Str.strSliceIndices lo none st n
def stepS (z : Str) (lo : Option Int) (st : Int) : Str := if (st == 1 && (stepI z.length lo st).length == z.length) = true then z else ⟨((stepI z.length lo st).filterMap (z.cps[·]?)).toArray⟩
def semStep : Dat → Option Int → Int → Option Out
  | .str z, lo, st => if (st == 0) = false ∧ (stepS z lo st).length ≤ sizeLine then some (.val (.str (stepS z lo st))) else none
  | _, _, _ => none
def tStp (K : Kw) (te : TE) (tl : TO) (ts : TE) : TE := fun σ H Q => te σ H fun x H1 => tl σ H1 fun l H2 => ts σ H2 fun y H3 => ∃ st, y = V.int st ∧ ∃ F d o, Same F H3 ∧ Seen K F H3 d x ∧ semStep d l st = some o ∧ ∀ v H', NewOk K F H3 v H' o → Q v H'
section
variable {X : Cx}
theorem pe_step {e st : Expr} {lo : Option Expr} {te ts : TE} {tl : TO} {p2 pos : Pos} (he : PE X e te) (hl : PO X lo tl) (hs : PE X st ts) : PE X (.Subscript e (.Slice lo none (some st) p2) pos) (tStp X.kw te tl ts) := by
  refine ⟨fun pins s σ H Q I h => ?_⟩
  refine Subscript_ (thn (he.run pins s σ H _ I h) fun v s1 ⟨x, H1, I1, r1, q1⟩ => ?_)
  refine wpAny_Slice (thn (hl.run pins s1 σ H1 _ I1 q1) fun vl s2 ⟨l, H2, I2, pl, q2⟩ => ?_)
  rw [evalPart_none]
  refine wpAny_pure ?_
  rw [evalPart_some]
  refine thn (hs.run pins s2 σ H2 _ I2 q2) fun vs s4 ⟨y, H4, I4, ry, k, ey, F, d, o, sm, hd, ho, q⟩ => ?_
  subst ey
  obtain ⟨tk, rfl⟩ := ry
  have I5 : Inv X pins σ H4 { s4 with heap := s4.heap.push { cls := .type "slice", data := .fields #[vl, .none, .int k tk] } } := I4.kept (t' := s4.toks) fun b ob q => Heap.get?_push_of_some _ q
  show wpAny (model X.prog X.w) X.A (subscriptTail e (.Slice lo none (some st) p2) v (.ref s4.heap.objs.size)) (EP X pins σ Q) X.xe { s4 with heap := s4.heap.push { cls := .type "slice", data := .fields #[vl, .none, .int k tk] } }
  unfold semStep at ho
  split at ho
  · rename_i z
    split at ho
    · rename_i hc
      cases ho
      obtain ⟨rfl, hz⟩ := hd
      obtain ⟨t, rfl⟩ := r1
      obtain ⟨l', rfl, rfl⟩ := IsPart.raw pl
      refine tail_any (ops := [.str z t, .ref s4.heap.objs.size]) (typeIs_str _ _ _) PySem.F.slot_str_getitem.lookup ?_ (by with_unfolding_all rfl)
      refine wpAny_getItem_str_slice (l := l') (u := none) (st := some (k, tk)) ⟨_, Heap.get?_push_size _ rfl, rfl, rfl⟩ hc.1 ?_
      have q := q _ _ (new_str sm hc.2)
      have hl2 := hc.2
      unfold stepS stepI at q hl2
      show Made.post (if (k == 1 && (Builtin.Str.strSliceIndices (l'.map (·.1)) none k z.length).length == z.length) = true then Made.val (.str z t)
        else Made.str ⟨((Builtin.Str.strSliceIndices (l'.map (·.1)) none k z.length).filterMap (z.cps[·]?)).toArray⟩) (EP X pins σ Q) _
      by_cases c : (k == 1 && (Builtin.Str.strSliceIndices (l'.map (·.1)) none k z.length).length == z.length) = true
      · rw [if_pos c] at q ⊢
        exact ⟨.str z, H4, I5, ⟨t, rfl⟩, q⟩
      · rw [if_neg c] at q hl2 ⊢
        exact ⟨hl2, .str _, H4, I5.tok _, ⟨_, rfl⟩, q⟩
    · cases ho
  · cases ho
end

/-! ### calls of built-ins with one argument -/
def semLen : Dat → Option Out
  | .lst ds => some (.val (.int ds.length))
  | .tup ds => some (.val (.int ds.length))
  | .str x => some (.val (.int x.length))
  | .dct ks _ => some (.val (.int ks.length))
  | _ => none
def semInt : Dat → Option Out
  | .int i => some (.val (.int i))
  | .bl b => some (.val (.int (if b then 1 else 0)))
  | _ => none
/-- the signs of a text -/
def signs (x : Str) : List Str := x.cps.toList.map fun c => ⟨#[c]⟩
def semList : Dat → Option Out
  | .lst ds => some (.fresh (.lst ds))
  | .tup ds => some (.fresh (.lst ds))
  | .str x => some (.fresh (.lst ((signs x).map .str)))
  | .dct ks _ => if ks.all flatK = true then some (.fresh (.lst ks)) else if ks.all tupK = true then some (.fresh (.lst ks)) else none
  | _ => none
/-- list(range(n)) -/
def semLrg : Dat → Option Out
  | .int n => if -(2 ^ 62) ≤ n ∧ n ≤ 1000000 then some (.fresh (.lst ((List.range n.toNat).map fun k => .int (0 + (k : Nat))))) else none
  | _ => none
def semTuple : Dat → Option Out
  | .lst ds => some (.val (.tup ds))
  | .tup ds => some (.val (.tup ds))
  | _ => none
def strsOf : List Dat → Option (List Str)
  | [] => some []
  | .str x :: r => (strsOf r).map (x :: ·)
  | _ => none
def intsOf : List Dat → Option (List Int)
  | [] => some []
  | .int x :: r => (intsOf r).map (x :: ·)
  | _ => none
theorem strsOf_map : ∀ xs : List Str, strsOf (xs.map .str) = some xs
  | [] => rfl
  | x :: r => by show (strsOf (r.map .str)).map (x :: ·) = _; rw [strsOf_map r]; rfl
theorem intsOf_map : ∀ xs : List Int, intsOf (xs.map .int) = some xs
  | [] => rfl
  | x :: r => by show (intsOf (r.map .int)).map (x :: ·) = _; rw [intsOf_map r]; rfl
theorem strsOf_eq : ∀ {ds : List Dat} {xs : List Str}, strsOf ds = some xs → ds = xs.map .str
  | [], xs, h => by cases h; rfl
  | .str x :: r, xs, h => by
    unfold strsOf at h
    cases q : strsOf r with
    | none => rw [q] at h; cases h
    | some ys => rw [q] at h; cases h; rw [strsOf_eq q]; rfl
  | .non :: r, xs, h => by cases h
  | .bl _ :: r, xs, h => by cases h
  | .int _ :: r, xs, h => by cases h
  | .tup _ :: r, xs, h => by cases h
  | .lst _ :: r, xs, h => by cases h
  | .dct _ _ :: r, xs, h => by cases h
  | .fn _ _ :: r, xs, h => by cases h
theorem intsOf_eq : ∀ {ds : List Dat} {xs : List Int}, intsOf ds = some xs → ds = xs.map .int
  | [], xs, h => by cases h; rfl
  | .int x :: r, xs, h => by
    unfold intsOf at h
    cases q : intsOf r with
    | none => rw [q] at h; cases h
    | some ys => rw [q] at h; cases h; rw [intsOf_eq q]; rfl
  | .non :: r, xs, h => by cases h
  | .bl _ :: r, xs, h => by cases h
  | .str _ :: r, xs, h => by cases h
  | .tup _ :: r, xs, h => by cases h
  | .lst _ :: r, xs, h => by cases h
  | .dct _ _ :: r, xs, h => by cases h
  | .fn _ _ :: r, xs, h => by cases h
/-- sorted(list of texts, or of ints) -/
def semSorted : Dat → Option Out
  | .lst ds => match strsOf ds with
    | some xs => some (.fresh (.lst ((sortS xs).map .str)))
    | none => match intsOf ds with
      | some xs => some (.fresh (.lst ((sortI xs).map .int)))
      | none => none
  | .dct ks _ => match strsOf ks with
    | some xs => if xs.length < 64 then some (.fresh (.lst ((sortS xs).map .str))) else none
    | none => none
  | .str x => some (.fresh (.lst ((sortS (signs x)).map .str)))
  | _ => none
/-- the built-in class of a datum -/
def tyD : Dat → String
  | .non => "NoneType"
  | .bl _ => "bool"
  | .int _ => "int"
  | .str _ => "str"
  | .tup _ => "tuple"
  | .lst _ => "list"
  | .dct _ _ => "dict"
  | .fn _ _ => "function"
def knownTy : Dat → Bool
  | .dct ks _ => ks.all flatK
  | _ => true
def semIsi (t : String) (d : Dat) : Option Out := if knownTy d = true then (kitB (tyD d) t).map fun b => .val (.bl b) else none
section
variable {X : Cx}
theorem ok_len : CallR X (.builtin "len") (rC1 X.kw semLen) := by
  intro pins s σ H xs us Q I r h
  obtain ⟨x, rfl, F, d, o, sm, hd, ho, q⟩ := h
  unfold semLen at ho
  split at ho
  · cases ho
    obtain ⟨a, ys, rfl, hx, lx, r'⟩ := hd
    refine call_len_seq pins s σ H _ us Q I r ⟨a, ys, rfl, .inl hx, ?_⟩
    rw [← DenL.length r']
    exact q _ _ (new_int sm _)
  · cases ho
    obtain ⟨a, ys, rfl, hx, lx, r'⟩ := hd
    refine call_len_seq pins s σ H _ us Q I r ⟨a, ys, rfl, .inr (Same.seqT sm hx), ?_⟩
    rw [← DenL.length r']
    exact q _ _ (new_int sm _)
  · cases ho
    have hd : x = .str _ ∧ _ := hd
    exact call_len_str pins s σ H _ us Q I r ⟨_, by rw [hd.1], hd.2, q _ _ (new_int sm _)⟩
  · cases ho
    obtain ⟨u, rfl, ru⟩ := vals1 r
    exact d_len_ok I sm hd ru fun t s' I' => ⟨.int _, H, I', ⟨_, rfl⟩, q _ _ (new_int sm _)⟩
  · cases ho
theorem ok_int : CallR X (.type "int") (rC1 X.kw semInt) := by
  intro pins s σ H xs us Q I r h
  obtain ⟨x, rfl, F, d, o, sm, hd, ho, q⟩ := h
  unfold semInt at ho
  split at ho
  · cases ho
    exact call_int1 pins s σ H _ us Q I r (.inl ⟨_, by rw [show x = _ from hd], q _ _ (new_int sm _)⟩)
  · cases ho
    exact call_int1 pins s σ H _ us Q I r (.inr ⟨_, by rw [show x = _ from hd], q _ _ (new_int sm _)⟩)
  · cases ho
theorem sign_vals {x : Str} {acc : Array Value} (h : ItemsOf (SignAt x) acc x.cps.size) : Vals ((signs x).map V.str) acc.toList := by
  have e : (signs x).map V.str = (List.range acc.toList.length).map fun j => V.str ⟨#[x.cps.toList.getD j 0]⟩ := by
    have hl : acc.toList.length = x.cps.toList.length := by rw [Array.length_toList, Array.length_toList]; exact h.1
    rw [hl]
    unfold signs
    rw [List.map_map]
    refine List.ext_getElem? fun i => ?_
    rw [List.getElem?_map, List.getElem?_map]
    by_cases hi : i < x.cps.toList.length
    · rw [List.getElem?_range hi, List.getElem?_eq_getElem hi]
      rw [Option.map_some, Option.map_some, Function.comp_apply, List.getD_eq_getElem?_getD, List.getElem?_eq_getElem hi]
      rfl
    · rw [List.getElem?_eq_none (by omega), List.getElem?_eq_none (by rw [List.length_range]; omega)]
      rfl
  rw [e]
  refine vals_of_get acc.toList _ fun j u hu => ?_
  have hu' : acc[j]? = some u := by rw [← Array.getElem?_toList]; exact hu
  have hj : j < x.cps.size := by
    have := (Array.getElem?_eq_some_iff.mp hu').1
    rw [← h.1]
    exact this
  have := h.2 j u hu'
  obtain ⟨c, t, hc, ht⟩ := this
  refine ⟨t, ?_⟩
  rw [ht]
  have e2 : x.cps.toList.getD j 0 = c := by
    rw [List.getD_eq_getElem?_getD, Array.getElem?_toList, hc]
    rfl
  rw [e2]
theorem call_list_dN (hc : X.calm = true) : CallR X (.type "list") (fun xs H Q => ∃ d ps, xs = [V.ref d] ∧ H d = some (DN X.w d ps) ∧ ∀ p, H p = none → Q (.ref p) (upd H p (.lst (ps.map fun p => V.ref p.2.1)))) := by
  intro pins s σ H xs us Q I r h
  obtain ⟨d, ps, rfl, hd, q⟩ := h
  obtain ⟨u, rfl, rx⟩ := vals1 r
  cases rx
  obtain ⟨z, hs, ks, pr, o, es, ep, ho, hx, hdt, he, hn⟩ := (I.hok d _ hd).1
  have l1 : es.size = ks.length := by rw [← Array.length_toList, he, List.length_map]
  have l2 : ps.length = ks.length := Paired.length pr
  refine PySem.W.kdl_call (kdl_raw hs hx hdt) (I.ok.hd hc) ho (by omega) fun h' tk acc' c' kp e it => ?_
  have ea : acc'.toList = ks.map fun x => Value.ref x.2.1 := by
    have hl : acc'.toList.length = ks.length := by rw [Array.length_toList, it.1]; exact l1
    apply List.ext_getElem?
    intro j
    rw [List.getElem?_map]
    cases hj : acc'.toList[j]? with
    | none =>
      have h1 := List.getElem?_eq_none_iff.mp hj
      rw [List.getElem?_eq_none (by omega)]
      rfl
    | some v =>
      obtain ⟨en, hen, hv⟩ := it.2 j v (by rw [← Array.getElem?_toList]; exact hj)
      have qe : es.toList[j]? = some en := by rw [Array.getElem?_toList]; exact hen
      rw [he, List.getElem?_map] at qe
      cases hb : ks[j]? with
      | none =>
        rw [hb] at qe
        cases qe
      | some b =>
        rw [hb] at qe
        have e2 : _ = en := Option.some.inj qe
        rw [hv, ← e2]
        rfl
  have rv : Vals (ps.map fun p => V.ref p.2.1) acc'.toList := by
    rw [ea]
    clear ea hn he l1 l2 z it q hd
    induction pr with
    | nil => exact Paired.nil
    | cons h t ih => exact Paired.cons (show Value.ref _ = Value.ref _ from by rw [h.2.1]) ih
  have hz : (ps.map fun p => V.ref p.2.1).length ≤ sizeLine := by rw [List.length_map]; omega
  refine ⟨.ref s.heap.objs.size, _, I.laid (t' := tk) (o := .lst (ps.map fun p => V.ref p.2.1)) kp (Nat.le_refl _) ?_, rfl, q _ (I.hok.fresh (Nat.le_refl _))⟩
  exact ⟨hz, acc'.toList, c', rv, by rw [Array.toArray_toList]; exact e⟩
theorem ok_list (hc : X.calm = true) : CallR X (.type "list") (rC1 X.kw semList) := by
  intro pins s σ H xs us Q I r h
  obtain ⟨x, rfl, F, d, o, sm, hd, ho, q⟩ := h
  unfold semList at ho
  split at ho
  · cases ho
    obtain ⟨a, ys, rfl, hx, lx, r'⟩ := hd
    exact call_list_of pins s σ H _ us Q I r ⟨a, ys, rfl, .inl hx, fun p hp => q _ _ (NewOk.lst sm hp lx r')⟩
  · cases ho
    obtain ⟨a, ys, rfl, hx, lx, r'⟩ := hd
    exact call_list_of pins s σ H _ us Q I r ⟨a, ys, rfl, .inr (Same.seqT sm hx), fun p hp => q _ _ (NewOk.lst sm hp lx r')⟩
  · rename_i z
    cases ho
    have hd : x = .str z ∧ _ := hd
    obtain ⟨rfl, hz⟩ := hd
    obtain ⟨u, rfl, ru⟩ := vals1 r
    obtain ⟨t, rfl⟩ := ru
    have hl : ((signs z).map V.str).length ≤ sizeLine := by
      unfold signs
      rw [List.length_map, List.length_map, Array.length_toList]
      exact hz
    refine call_list_str (I.ok.hd hc) z t (fun h' tk acc' c' kp e hi => ?_) hz
    have I1 : Inv X pins σ (upd H s.heap.objs.size (.lst ((signs z).map V.str))) { s with heap := h', toks := tk } := I.laid kp (Nat.le_refl _) ⟨hl, acc'.toList, c', sign_vals hi, by simpa using e⟩
    refine ⟨.ref s.heap.objs.size, _, I1, rfl, q _ _ (NewOk.lst sm I.fresh hl (DenL.of_strs (signs z) fun n hn => ?_))⟩
    unfold signs at hn
    obtain ⟨c, _, rfl⟩ := List.mem_map.mp hn
    show (1 : Nat) ≤ sizeLine
    decide
  · split at ho
    · rename_i hf
      cases ho
      obtain ⟨a, w, ws, zs, rfl, ha, hd, q1, q2⟩ := hd
      obtain ⟨ps, rfl, rfl, rfl⟩ := hd.flat hf q1
      exact call_listD hc pins s σ H _ us Q I r ⟨a, ps, rfl, .inl ha, fun p hp => q _ _ (NewOk.lst sm hp hd.1 q1)⟩
    · split at ho
      · rename_i hnf hf
        cases ho
        obtain ⟨a, w, ws, zs, rfl, ha, hd, q1, q2⟩ := hd
        obtain ⟨hl, ⟨ps, rfl, rfl, rfl⟩ | ⟨ps, rfl, rfl, rfl, hn, ht, hne⟩⟩ := hd
        · exact absurd (keys_flat q1) hnf
        · exact call_list_dN hc pins s σ H _ us Q I r ⟨a, ps, rfl, ha, fun p hp => q _ _ (NewOk.lst sm hp hl q1)⟩
      · cases ho
  · cases ho
theorem ok_tuple : CallR X (.type "tuple") (rC1 X.kw semTuple) := by
  intro pins s σ H xs us Q I r h
  obtain ⟨x, rfl, F, d, o, sm, hd, ho, q⟩ := h
  unfold semTuple at ho
  split at ho
  · cases ho
    obtain ⟨a, ys, rfl, hx, lx, r'⟩ := hd
    exact call_tuple_of pins s σ H _ us Q I r ⟨a, ys, rfl, .inl ⟨hx, fun p hp => q _ _ (NewOk.tup sm hp lx r')⟩⟩
  · cases ho
    obtain ⟨a, ys, rfl, hx, lx, r'⟩ := hd
    exact call_tuple_of pins s σ H _ us Q I r ⟨a, ys, rfl, .inr ⟨Same.seqT sm hx, q _ _ (NewOk.same sm ⟨a, ys, rfl, hx, lx, r'⟩)⟩⟩
  · cases ho
theorem cr_sortA : CallR X (.builtin "sorted") (fun vs H Q => ∃ (a : Addr) (xs : List Str), vs = [V.ref a] ∧ SqL X.kw H a (xs.map V.str) ∧ ∀ (ys : List Str) (p : Addr), ys.Perm xs → sortedS ys = true → H p = none → Q (.ref p) (upd H p (.lst (ys.map V.str)))) := by
  intro pins s σ H vs us Q I r h
  obtain ⟨a, xs, rfl, hs, q⟩ := h
  obtain ⟨its, rv, hl, hz⟩ := I.list hs
  rw [Vals.ref1 r]
  have len := rv.length
  refine PyProof.Rows.sorted_strsAny hl.isList rv.strs (by rw [← len]; exact hz) fun out ys h1 h2 h3 => ?_
  obtain ⟨ep, he⟩ := PyProof.Rows.sortedAll_at s.heap its out
  have ln : (ys.map V.str).length ≤ sizeLine := by rw [List.length_map, h2.length_eq]; rw [List.length_map] at hz; exact hz
  exact ⟨.ref _, upd H (s.heap.objs.size + 1) (.lst (ys.map V.str)), I.laid (t' := s.toks) (fun _ _ => PyProof.Rows.sortedAll_old) (Nat.le_succ _) ⟨ln, out.toList, ep, vals_of_strs h1, he⟩, rfl, q ys _ h2 h3 (I.hok.fresh (Nat.le_succ _))⟩
theorem cr_sortI : CallR X (.builtin "sorted") (fun vs H Q => ∃ (a : Addr) (xs : List Int), vs = [V.ref a] ∧ SqL X.kw H a (xs.map V.int) ∧ ∀ (ys : List Int) (p : Addr), ys.Perm xs → ys.Pairwise (· ≤ ·) → H p = none → Q (.ref p) (upd H p (.lst (ys.map V.int)))) := by
  intro pins s σ H vs us Q I r h
  obtain ⟨a, xs, rfl, hs, q⟩ := h
  obtain ⟨its, rv, hl, hz⟩ := I.list hs
  rw [Vals.ref1 r]
  have len := rv.length
  refine PyProof.Rows.sorted_intsAny hl.isList rv.ints (by rw [← len]; exact hz) fun out ys h1 h2 h3 => ?_
  obtain ⟨ep, he⟩ := PyProof.Rows.sortedAll_at s.heap its out
  have ln : (ys.map V.int).length ≤ sizeLine := by rw [List.length_map, h2.length_eq]; rw [List.length_map] at hz; exact hz
  exact ⟨.ref _, upd H (s.heap.objs.size + 1) (.lst (ys.map V.int)), I.laid (t' := s.toks) (fun _ _ => PyProof.Rows.sortedAll_old) (Nat.le_succ _) ⟨ln, out.toList, ep, vals_of_ints h1, he⟩, rfl, q ys _ h2 h3 (I.hok.fresh (Nat.le_succ _))⟩
theorem vals_strsAre : ∀ {ks : List Str} {us : List Value}, Vals (ks.map V.str) us → StrsAre us ks
  | [], us, r => by
    rw [List.map_nil] at r
    cases r
    exact .nil
  | k :: ks, us, r => by
    rw [List.map_cons] at r
    cases r with
    | cons h t =>
      obtain ⟨tk, rfl⟩ := h
      exact .cons k tk (vals_strsAre t)
/-- sorted(a text) -/
theorem cr_sortTx (hc : X.calm = true) : CallR X (.builtin "sorted") (fun vs H Q => ∃ z : Str, vs = [V.str z] ∧ z.length ≤ sizeLine ∧ ∀ p, H p = none → Q (.ref p) (upd H p (.lst ((sortS (signs z)).map V.str)))) := by
  intro pins s σ H vs us Q I r h
  obtain ⟨z, rfl, hz, q⟩ := h
  obtain ⟨u, rfl, ru⟩ := vals1 r
  obtain ⟨t, rfl⟩ := ru
  refine Calls.call_function_entry kind_sorted plain_sorted entry_sorted (args_sorted1 _) ?_
  (unfold Builtin.«sorted»); (refine wpAny_bind (m := checkCount "sorted" 1 1 _) (wpAny_pure ?_))
  refine wpAny_bind (wpAny_collect_str (A := X.A.in1) (I.ok.hd hc) z t (fun s1 acc kp e1 e2 e3 hi => ?_) hz)
  have es : s1 = { s with heap := s1.heap, toks := s1.toks } := by
    cases s1
    cases s
    cases e1
    cases e2
    cases e3
    rfl
  have I1 : Inv X pins σ H s1 := by
    rw [es]
    exact I.kept kp
  have hS : StrsAre acc.toList (signs z) := vals_strsAre (sign_vals hi)
  have hL : acc.toList.length ≤ sizeLine := by rw [Array.length_toList, hi.1]; exact hz
  refine wpAny_bind (wpAny_newList ?_ hL)
  have gL : (s1.heap.push (seqObj "list" acc.toList.toArray 0)).get? s1.heap.objs.size = some (seqObj "list" acc.toList.toArray 0) := Heap.get?_push_size _ rfl
  refine wpAny_bind (wpAny_holding (wpAny_call_entry slot_list_sort ⟨_, gL, rfl⟩ entry_list_sort
    (list_sort_treeKAny PyProof.Rows.strKind_oneLt (s := { s1 with heap := s1.heap.push (seqObj "list" acc.toList.toArray 0) }) gL hS.keysOf (fun v₁ v₂ rest e => keyKind_strs (by rw [← e]; exact hS)) hL fun st' hp hs => ⟨_, rfl, ?_⟩) (args_list_sort _)))
  obtain ⟨zs, z1, z2, z3⟩ := sorted_out_str hS hp hs
  have ez : zs = sortS (signs z) := sortS_of z2 z3
  subst ez
  obtain ⟨c, gc⟩ := sortedHeap_at (vs := acc.toList) (out := (arrOf st').map (·.2)) gL
  have hlen : ((sortS (signs z)).map V.str).length ≤ sizeLine := by rw [List.length_map, z2.length_eq, ← hS.length]; exact hL
  refine wpAny_pure ⟨_, rfl, .ref s1.heap.objs.size, upd H s1.heap.objs.size (.lst ((sortS (signs z)).map V.str)), I1.laid (t' := s1.toks) (fun b u e => ?_) (Nat.le_refl _) ⟨hlen, ((arrOf st').map (·.2)).toList, c, vals_of_strs z1, by rw [Array.toArray_toList]; exact gc⟩, rfl, q _ (I1.hok.fresh (Nat.le_refl _))⟩
  have lt := Heap.lt_size e
  rw [sortedHeap_old (Nat.ne_of_lt lt) (by rw [size_push']; exact Nat.lt_succ_of_lt lt)]
  exact Heap.get?_push_of_some _ e
theorem strs_flatK : ∀ ys : List Str, (ys.map Dat.str).all flatK = true
  | [] => rfl
  | y :: ys => by rw [List.map_cons, List.all_cons, strs_flatK ys]; rfl
theorem ok_sorted (hcm : X.calm = true) : CallR X (.builtin "sorted") (rC1 X.kw semSorted) := by
  intro pins s σ H xs us Q I r h
  obtain ⟨x, rfl, F, d, o, sm, hd, ho, q⟩ := h
  unfold semSorted at ho
  split at ho
  · split at ho
    · rename_i ds _ ys hs
      cases ho
      have e := strsOf_eq hs
      subst e
      obtain ⟨a, vs, rfl, hx, lx, r'⟩ := hd
      obtain ⟨e1, e2⟩ := DenL.strs r'
      subst e1
      refine cr_sortA pins s σ H _ us Q I r ⟨a, ys, rfl, hx, fun zs p pm so hp => ?_⟩
      have ez := sortS_of pm so
      subst ez
      exact q _ _ (NewOk.lst sm hp (by rw [List.length_map, (sortS_perm ys).length_eq]; rw [List.length_map] at lx; exact lx) (DenL.of_strs _ fun n hn => e2 n ((sortS_perm ys).mem_iff.mp hn)))
    · split at ho
      · rename_i ds _ _ ys hs
        cases ho
        have e := intsOf_eq hs
        subst e
        obtain ⟨a, vs, rfl, hx, lx, r'⟩ := hd
        have e1 := DenL.ints r'
        subst e1
        refine cr_sortI pins s σ H _ us Q I r ⟨a, ys, rfl, hx, fun zs p pm so hp => ?_⟩
        have ez := sortI_of pm so
        subst ez
        exact q _ _ (NewOk.lst sm hp (by rw [List.length_map, (sortI_perm ys).length_eq]; rw [List.length_map] at lx; exact lx) (DenL.of_ints _))
      · cases ho
  · split at ho
    · rename_i ks _ _ ys hs
      split at ho
      · rename_i hl
        cases ho
        have e := strsOf_eq hs
        subst e
        obtain ⟨a, w, ws, zs, rfl, ha, hd, q1, q2⟩ := hd
        obtain ⟨ps, rfl, hw, rfl⟩ := hd.flat (strs_flatK ys) q1
        obtain ⟨e1, e2⟩ := DenL.strs q1
        have hks : ps.map (·.1) = ys.map Sum.inr := kVs_inj (by rw [List.map_map, List.map_map]; exact hw.symm.trans e1)
        refine call_sortedD hcm pins s σ H _ us Q I r ⟨a, ps, ys, rfl, .inl ha, hks, hl, fun zs' p pm so hp => ?_⟩
        have ez := sortS_of pm so
        subst ez
        exact q _ _ (NewOk.lst sm hp (by rw [List.length_map, (sortS_perm ys).length_eq, sizeLine_eq]; omega) (DenL.of_strs _ fun n hn => e2 n ((sortS_perm ys).mem_iff.mp hn)))
      · cases ho
    · cases ho
  · rename_i z
    cases ho
    obtain ⟨rfl, hz⟩ := hd
    refine cr_sortTx hcm pins s σ H _ us Q I r ⟨z, rfl, hz, fun p hp => q _ _ (NewOk.lst sm hp ?_ (DenL.of_strs _ fun n hn => ?_))⟩
    · rw [List.length_map, (sortS_perm _).length_eq]
      unfold signs
      rw [List.length_map, Array.length_toList]
      exact hz
    · have hn := (sortS_perm _).mem_iff.mp hn
      unfold signs at hn
      obtain ⟨c, _, rfl⟩ := List.mem_map.mp hn
      show (1 : Nat) ≤ sizeLine
      decide
  · cases ho
theorem Seen.tyx {F H : Hp} {K : Kw} (sm : Same F H) {d : Dat} {x : V} (hkn : knownTy d = true) (h : Seen K F H d x) : TyX K H x (.type (tyD d)) := by
  cases d with
  | non => rw [show x = _ from h]; exact .base .non
  | bl b => rw [show x = _ from h]; exact .base (.bl b)
  | int i => rw [show x = _ from h]; exact .base (.int i)
  | str z => rw [h.1]; exact .base (.str z)
  | tup ds =>
    obtain ⟨a, ys, rfl, hx, lx, r'⟩ := h
    rcases Same.seqT sm hx with (hx | ⟨ob, hx⟩) | ⟨ob, its, n, hk, hc, _⟩
    · exact .base (.tup hx)
    · exact .fTuple hx
    · exact .kTuple hk hc
  | lst ds =>
    obtain ⟨a, ys, rfl, hx, lx, r'⟩ := h
    rcases hx with (hx | ⟨ob, hx⟩) | ⟨ob, its, n, hk, hc, _⟩
    · exact .base (.lst hx)
    · exact .base (.frz hx)
    · exact .kList hk hc
  | dct ks vs =>
    obtain ⟨a, w, ws, zs, rfl, ha, hd, q1, q2⟩ := h
    obtain ⟨ps, rfl, _, _⟩ := hd.flat hkn q1
    exact .base (.dK ha)
  | fn c ds => exact h.elim
/-- isinstance(x, T), T a built-in class -/
theorem ok_isi (t : String) : CallR X (.builtin "isinstance") (fun xs H Q => ∃ x, xs = [x, .ty t] ∧ rD1 X.kw (semIsi t) x H Q) := by
  intro pins s σ H xs us Q I r h
  obtain ⟨x, rfl, F, d, o, sm, hd, ho, q⟩ := h
  unfold semIsi at ho
  by_cases hkn : knownTy d = true
  case neg => rw [if_neg hkn] at ho; cases ho
  rw [if_pos hkn] at ho
  cases hb : kitB (tyD d) t with
  | none => rw [hb] at ho; cases ho
  | some b =>
    rw [hb] at ho
    cases ho
    exact call_isi pins s σ H _ us Q I r ⟨x, .ty t, _, _, b, rfl, .ty t, Seen.tyx sm hkn hd, kit_ty hb, q _ _ (new_bl sm _)⟩
end

/-! ### methods of texts -/
def semIndex : Dat → Dat → Option Out
  | .str x, .str y => (Txt.index0 x y).map fun k => .val (.int (k : Nat))
  | _, _ => none
def semJoin : Dat → Dat → Option Out
  | .str a, .lst ds => match strsOf ds with
    | some ys => if (ys.map (·.length)).sum + ys.length * a.length ≤ sizeLine then some (.val (.str (Txt.join a ys))) else none
    | none => none
  | _, _ => none
theorem joinL_len (s : List Nat) : ∀ ps : List (List Nat), (TL.joinL s ps).length ≤ (ps.map (·.length)).sum + ps.length * s.length
  | [] => by simp [TL.joinL]
  | [p] => by simp [TL.joinL]
  | p :: q :: r => by
    have ih := joinL_len s (q :: r)
    show (p ++ (s ++ TL.joinL s (q :: r))).length ≤ _
    rw [List.length_append, List.length_append, List.map_cons, List.sum_cons, List.length_cons, Nat.succ_mul]
    omega
theorem join_len (a : Str) (ys : List Str) : (Txt.join a ys).length ≤ (ys.map (·.length)).sum + ys.length * a.length := by
  rw [TL.len_tl, TL.join_eq, TL.tl_join]
  have h := joinL_len (TL.tl a) (ys.map TL.tl)
  rw [List.length_map, List.map_map] at h
  have e : ys.map ((fun x => x.length) ∘ TL.tl) = ys.map (·.length) := List.map_congr_left fun y _ => (TL.len_tl y).symm
  rw [e, ← TL.len_tl a] at h
  exact h
section
variable {X : Cx}
theorem ok_index : MtR X "str.index" (rM1 X.kw semIndex) := by
  intro pins s σ H x xs v us Q I rx rs h
  obtain ⟨y, rfl, F, d, e, o, sm, hd, he, ho, q⟩ := h
  unfold semIndex at ho
  split at ho
  · rename_i x' y'
    cases hk : Txt.index0 x' y' with
    | none => rw [hk] at ho; cases ho
    | some k =>
      rw [hk] at ho
      cases ho
      have hd : x = .str x' ∧ _ := hd
      have he : y = .str y' ∧ _ := he
      obtain ⟨rfl, _⟩ := hd
      obtain ⟨rfl, _⟩ := he
      obtain ⟨u, rfl, ru⟩ := vals1 rs
      obtain ⟨t, rfl⟩ := rx
      obtain ⟨t', rfl⟩ := ru
      unfold Txt.index0 at hk
      cases ho2 : Builtin.Str.occurrences x' y' 0 x'.length 1 with
      | nil => rw [ho2] at hk; cases hk
      | cons k' rest =>
        rw [ho2] at hk
        cases hk
        exact PySem.SC.index ho2 ⟨.int (k : Nat), H, I.tok _, ⟨_, rfl⟩, q _ _ (new_int sm _)⟩
  · cases ho
theorem ok_join : MtR X "str.join" (rM1 X.kw semJoin) := by
  intro pins s σ H x xs v us Q I rx rs h
  obtain ⟨y, rfl, F, d, e, o, sm, hd, he, ho, q⟩ := h
  unfold semJoin at ho
  split at ho
  · rename_i a ds
    split at ho
    · rename_i ys hs
      split at ho
      · rename_i hl
        cases ho
        have hd : x = .str a ∧ _ := hd
        have ed := strsOf_eq hs
        subst ed
        obtain ⟨p, vs, rfl, hx, lx, r'⟩ := he
        obtain ⟨e1, e2⟩ := DenL.strs r'
        subst e1
        have hsz : sizeLine = 16777216 := sizeLine_eq
        exact mt_join pins s σ H x _ v us Q I rx rs ⟨a, p, ys, hd.1, rfl, .inl hx, by omega, q _ _ (new_str sm (Nat.le_trans (join_len a ys) hl))⟩
      · cases ho
    · cases ho
  · cases ho
end
end Dl

/-! Z3: set(xs), len(set(xs)), sorted(set(xs)) as rules of the layer. -/
namespace Dl
open PySem PySem.Spec PyProof.Rows L2

def kfS (v : Value) : Str := match v with
  | .str x _ => x
  | _ => ⟨#[]⟩
def kfI (v : Value) : Int := match v with
  | .int x _ => x
  | _ => 0
theorem kfS_is (P : Program) (w : World) (k : Str) (v : Value) (h : (PySem.strKind P w).is k v = true) : kfS v = k := by
  obtain ⟨t, rfl⟩ := Value.isStrOf_shape h
  rfl
section
variable {X : Cx} {K : Type} [DecidableEq K] {knd : PySem.KeyKind X.prog X.w K} {kf : Value → K}
def SetH (knd : PySem.KeyKind X.prog X.w K) (kf : Value → K) (a : Addr) (ks : List K) : HO := .ext fun h => SetG knd kf h a ks
theorem setH_new {H : Hp} {h : Heap} {a : Addr} {ks : List K} (R : SetG knd kf h a ks) : ObjOk X.prog X.w H h a (SetH knd kf a ks) := by
  have ⟨o, _, _, _, ho, _⟩ := R
  exact ⟨R, ⟨o, ho⟩, fun h1 h2 p k => SetG.at p k⟩
theorem setH_get {pins : List (Addr × Obj)} {σ : L2.St} {H : Hp} {s : Shared} {a : Addr} {ks : List K} (I : Inv X pins σ H s) (ha : H a = some (SetH knd kf a ks)) : SetG knd kf s.heap a ks := (I.hok a _ ha).1
end
section
variable {X : Cx}
/-- set(a list of texts) -/
def rSetS (X : Cx) : List V → Hp → VK → Prop := fun vs H Q => ∃ (a : Addr) (xs : List Str), vs = [.ref a] ∧ SqL X.kw H a (xs.map V.str) ∧ xs.length + 1 < scanBound ∧ ∀ p, H p = none → Q (.ref p) (upd H p (SetH (PySem.strKind X.prog X.w) kfS p (dd xs)))
theorem cr_setS (hc : X.calm = true) : CallR X (.type "set") (rSetS X) := by
  intro pins s σ H vs us Q I r h
  obtain ⟨a, xs, rfl, hs, hb, q⟩ := h
  rw [Vals.ref1 r]
  obtain ⟨its, rv, p, _⟩ := I.list hs
  have hl := rv.length
  rw [List.length_map] at hl
  refine call_setG (knd := PySem.strKind X.prog X.w) (kf := kfS) (kfS_is X.prog X.w) (I.ok.hd hc) p.isList (xs := xs) (by rw [hl]; simp) hb (fun i v e => ?_) fun h' tk g kp => ?_
  · have e' : its[i]? = some v := by simpa using e
    obtain ⟨x, ex, rx⟩ := Kd.vals_back rv e'
    rw [List.getElem?_map] at ex
    cases hx : xs[i]? with
    | none => rw [hx] at ex; cases ex
    | some y =>
      rw [hx] at ex
      cases ex
      obtain ⟨t, rfl⟩ := rx
      exact ⟨y, rfl, strKind_is _ _ _ _, rfl⟩
  · exact ⟨.ref s.heap.objs.size, _, I.laid (t' := tk) kp (Nat.le_refl _) (setH_new g), rfl, q _ (I.hok.fresh (Nat.le_refl _))⟩
/-- sorted(a set of texts) -/
def rSortSS (X : Cx) : List V → Hp → VK → Prop := fun vs H Q => ∃ (a : Addr) (ks : List Str), vs = [.ref a] ∧ H a = some (SetH (PySem.strKind X.prog X.w) kfS a ks) ∧ ∀ p, H p = none → Q (.ref p) (upd H p (.lst ((sortS ks).map V.str)))
theorem strsAre_kf : ∀ (vs : List Value), (∀ v ∈ vs, ∃ k t, v = Value.str k t) → StrsAre vs (vs.map kfS)
  | [], _ => .nil
  | v :: vs, h => by
    obtain ⟨k, t, rfl⟩ := h v List.mem_cons_self
    exact .cons k t (strsAre_kf vs fun u hu => h u (List.mem_cons_of_mem _ hu))
theorem cr_sortSS (hc : X.calm = true) : CallR X (.builtin "sorted") (rSortSS X) := by
  intro pins s σ H vs us Q I r h
  obtain ⟨a, ks, rfl, ha, q⟩ := h
  rw [Vals.ref1 r]
  obtain ⟨o, es, ep, t, ho, hx, hd, el, pm, nd, sb, ft, rs, ld⟩ := setH_get I ha
  refine Calls.call_function_entry kind_sorted plain_sorted entry_sorted (args_sorted1 _) ?_
  (unfold Builtin.«sorted»); (refine wpAny_bind (m := checkCount "sorted" 1 1 _) (wpAny_pure ?_))
  refine wpAny_bind (collect_set (A := X.A.in1) (I.ok.hd hc) ⟨o, ho, hx.1, hd⟩ ft sb rs ld fun s1 vs kp hz g1 o1 pv => ?_)
  have hS : StrsAre vs (vs.map kfS) := strsAre_kf vs fun v hv => by
    obtain ⟨e, he, rfl⟩ := List.mem_map.mp (pv.mem_iff.mp hv)
    obtain ⟨⟨k, hk, _⟩, _⟩ := el e he
    obtain ⟨u, eu⟩ := Value.isStrOf_shape hk
    exact ⟨k, u, eu⟩
  have pk : (vs.map kfS).Perm ks := by
    refine (pv.map kfS).trans ?_
    rw [List.map_map]
    exact pm
  have szv : vs.length = es.size := by rw [pv.length_eq, List.length_map, Array.length_toList]
  have hL : vs.length ≤ sizeLine := by rw [szv]; exact fits_of_scanBound sb
  refine wpAny_bind (wpAny_newList ?_ hL)
  have gL : (s1.heap.push (seqObj "list" vs.toArray 0)).get? s1.heap.objs.size = some (seqObj "list" vs.toArray 0) := Heap.get?_push_size _ rfl
  refine wpAny_bind (wpAny_holding (wpAny_call_entry slot_list_sort ⟨_, gL, rfl⟩ entry_list_sort
    (list_sort_treeKAny PyProof.Rows.strKind_oneLt (s := { s1 with heap := s1.heap.push (seqObj "list" vs.toArray 0) }) gL hS.keysOf (fun v₁ v₂ rest e => keyKind_strs (by rw [← e]; exact hS)) hL fun st' hp hs => ⟨_, rfl, ?_⟩) (args_list_sort _)))
  obtain ⟨zs, z1, z2, z3⟩ := sorted_out_str hS hp hs
  have ez : zs = sortS ks := sortS_of (z2.trans pk) z3
  subst ez
  obtain ⟨c, gc⟩ := sortedHeap_at (vs := vs) (out := (arrOf st').map (·.2)) gL
  have hn : H s1.heap.objs.size = none := I.hok.fresh hz
  have kp2 : ∀ b u, s.heap.get? b = some u → (sortedHeap (s1.heap.push (seqObj "list" vs.toArray 0)) s1.heap.objs.size vs ((arrOf st').map (·.2))).get? b = some u := fun b u e => by
    have lt := Heap.lt_size (kp b u e)
    rw [sortedHeap_old (Nat.ne_of_lt lt) (by rw [size_push']; exact Nat.lt_succ_of_lt lt)]
    exact Heap.get?_push_of_some _ (kp b u e)
  have hlen : ((sortS ks).map V.str).length ≤ sizeLine := by rw [List.length_map, z2.length_eq, List.length_map]; exact hL
  have J : Inv X pins σ (upd H s1.heap.objs.size (.lst ((sortS ks).map V.str))) { s with heap := sortedHeap (s1.heap.push (seqObj "list" vs.toArray 0)) s1.heap.objs.size vs ((arrOf st').map (·.2)), gens := s1.gens, drawn := s1.drawn, toks := s1.toks } :=
    I.call (ch := []) (Un.laid kp2 hz hn) (I.hok.laid kp2 hz ⟨hlen, ((arrOf st').map (·.2)).toList, c, vals_of_strs z1, by rw [Array.toArray_toList]; exact gc⟩) (by rw [g1]; exact I.bare) (fun _ z => nomatch z)
  refine wpAny_pure ⟨_, rfl, .ref s1.heap.objs.size, _, ?_, rfl, q _ hn⟩
  have eo : s1.os = s.os := o1
  have e : ({ s1 with heap := sortedHeap (s1.heap.push (seqObj "list" vs.toArray 0)) s1.heap.objs.size vs ((arrOf st').map (·.2)) } : Shared) = { s with heap := sortedHeap (s1.heap.push (seqObj "list" vs.toArray 0)) s1.heap.objs.size vs ((arrOf st').map (·.2)), gens := s1.gens, drawn := s1.drawn, toks := s1.toks } := by
    cases s1
    cases s
    cases eo
    rfl
  rw [← e] at J
  exact J
/-- sorted(set(xs)), texts -/
def semSset : Dat → Option Out
  | .lst ds => match strsOf ds with
    | some xs => if xs.length + 1 < scanBound then some (.fresh (.lst ((sortS (dd xs)).map .str))) else none
    | none => none
  | _ => none
theorem sset_rule {F H : Hp} {x : V} {Q : VK} (h : rD1 X.kw semSset x H Q) : rSetS X [x] H fun v H1 => rSortSS X [v] H1 Q := by
  obtain ⟨F, d, o, sm, hd, ho, q⟩ := h
  unfold semSset at ho
  split at ho
  · split at ho
    · rename_i ds _ ys hs
      split at ho
      · rename_i hl
        cases ho
        have e := strsOf_eq hs
        subst e
        obtain ⟨a, vs, rfl, hx, lx, r'⟩ := hd
        obtain ⟨e1, e2⟩ := DenL.strs r'
        subst e1
        refine ⟨a, ys, rfl, hx, hl, fun p hp => ⟨p, dd ys, rfl, upd_same, fun p' hp' => ?_⟩⟩
        have ne : p' ≠ p := fun z => by subst z; rw [upd_same] at hp'; cases hp'
        have hn : H p' = none := by rw [upd_ne ne] at hp'; exact hp'
        have s1 : Same H (upd H p (SetH (PySem.strKind X.prog X.w) kfS p (dd ys))) := same_upd hp
        have s2 := same_upd (o := .lst ((sortS (dd ys)).map V.str)) hp'
        refine q _ _ ⟨p', ⟨Same.refl F, (sm.trans s1).trans s2, s1.trans s2, fun _ _ z => .inl z⟩, rfl, hn, _, upd_same, ?_, DenL.of_strs _ fun n hn => ?_⟩
        · rw [List.length_map, (sortS_perm _).length_eq]
          have := dd_len ys
          have hz : scanBound = 4096 := rfl
          have hq : sizeLine = 16777216 := sizeLine_eq
          omega
        · exact e2 n ((dd_mem ys).mp ((sortS_perm _).mem_iff.mp hn))
      · cases ho
    · cases ho
  · cases ho
/-- len(a set) -/
theorem cr_lenS : CallR X (.builtin "len") (fun vs H Q => ∃ (a : Addr) (ks : List Str), vs = [.ref a] ∧ H a = some (SetH (PySem.strKind X.prog X.w) kfS a ks) ∧ Q (.int ks.length) H) := by
  intro pins s σ H vs us Q I r h
  obtain ⟨a, ks, rfl, ha, q⟩ := h
  rw [Vals.ref1 r]
  obtain ⟨o, es, ep, t, ho, hx, hd, el, pm, nd, sb, ft, rs, ld⟩ := setH_get I ha
  have sz : es.size = ks.length := by rw [← pm.length_eq, List.length_map, Array.length_toList]
  refine call_len_set ho hx hd ft ?_ ⟨.int ks.length, H, I.tok _, ⟨_, by rw [sz]⟩, q⟩
  have := fits_of_scanBound sb
  rw [sizeLine_eq] at this
  omega
/-! ### further built-ins -/
def semAbs : Dat → Option Out
  | .int i => some (.val (.int (if i < 0 then -i else i)))
  | _ => none
def semSum : Dat → Option Out
  | .lst ds => (intsOf ds).map fun ns => .val (.int ns.sum)
  | _ => none
def blsOf : List Dat → Option (List Bool)
  | [] => some []
  | .bl x :: r => (blsOf r).map (x :: ·)
  | _ => none
theorem blsOf_eq : ∀ {ds : List Dat} {xs : List Bool}, blsOf ds = some xs → ds = xs.map .bl
  | [], xs, h => by cases h; rfl
  | d :: r, xs, h => by
    cases d with
    | bl x =>
      unfold blsOf at h
      cases q : blsOf r with
      | none => rw [q] at h; cases h
      | some ys => rw [q] at h; cases h; rw [blsOf_eq q]; rfl
    | _ => cases h
def semAll : Dat → Option Out
  | .lst ds => (blsOf ds).map fun bs => .val (.bl (bs.all id))
  | _ => none
/-- the most and the least of ints -/
def mostI : List Int → Int
  | [] => 0
  | [x] => x
  | x :: y :: r => max x (mostI (y :: r))
def leastI : List Int → Int
  | [] => 0
  | [x] => x
  | x :: y :: r => min x (leastI (y :: r))
theorem mostI_mem : ∀ {l : List Int}, l ≠ [] → mostI l ∈ l ∧ ∀ y ∈ l, y ≤ mostI l
  | [], h => absurd rfl h
  | [x], _ => ⟨List.mem_cons_self, fun y hy => by rw [List.mem_singleton.mp hy]; exact Int.le_refl _⟩
  | x :: y :: r, _ => by
    obtain ⟨h1, h2⟩ := mostI_mem (l := y :: r) (by simp)
    unfold mostI
    refine ⟨?_, fun z hz => ?_⟩
    · rw [Int.max_def]
      split
      · exact List.mem_cons_of_mem _ h1
      · exact List.mem_cons_self
    · rcases List.mem_cons.mp hz with rfl | hz
      · exact Int.le_max_left _ _
      · exact Int.le_trans (h2 z hz) (Int.le_max_right _ _)
theorem leastI_mem : ∀ {l : List Int}, l ≠ [] → leastI l ∈ l ∧ ∀ y ∈ l, leastI l ≤ y
  | [], h => absurd rfl h
  | [x], _ => ⟨List.mem_cons_self, fun y hy => by rw [List.mem_singleton.mp hy]; exact Int.le_refl _⟩
  | x :: y :: r, _ => by
    obtain ⟨h1, h2⟩ := leastI_mem (l := y :: r) (by simp)
    unfold leastI
    refine ⟨?_, fun z hz => ?_⟩
    · rw [Int.min_def]
      split
      · exact List.mem_cons_self
      · exact List.mem_cons_of_mem _ h1
    · rcases List.mem_cons.mp hz with rfl | hz
      · exact Int.min_le_left _ _
      · exact Int.le_trans (Int.min_le_right _ _) (h2 z hz)
def semMaxL : Dat → Option Out
  | .lst ds => match intsOf ds with
    | some (n :: ns) => some (.val (.int (mostI (n :: ns))))
    | _ => none
  | _ => none
def semMinL : Dat → Option Out
  | .lst ds => match intsOf ds with
    | some (n :: ns) => some (.val (.int (leastI (n :: ns))))
    | _ => none
  | _ => none
def semMin2 : Dat → Dat → Option Out
  | .int i, .int j => some (.val (.int (if j < i then j else i)))
  | _, _ => none
def semMax2 : Dat → Dat → Option Out
  | .int i, .int j => some (.val (.int (if j > i then j else i)))
  | _, _ => none
theorem ok_abs : CallR X (.builtin "abs") (rC1 X.kw semAbs) := by
  intro pins s σ H xs us Q I r h
  obtain ⟨x, rfl, F, d, o, sm, hd, ho, q⟩ := h
  unfold semAbs at ho
  split at ho
  · cases ho
    exact call_abs pins s σ H _ us Q I r ⟨_, by rw [show x = V.int _ from hd], q _ _ (new_int sm _)⟩
  · cases ho
theorem ok_sum (hc : X.calm = true) : CallR X (.builtin "sum") (rC1 X.kw semSum) := by
  intro pins s σ H xs us Q I r h
  obtain ⟨x, rfl, F, d, o, sm, hd, ho, q⟩ := h
  unfold semSum at ho
  split at ho
  · rename_i ds
    cases hn : intsOf ds with
    | none => rw [hn] at ho; cases ho
    | some ns =>
      rw [hn] at ho
      cases ho
      have e := intsOf_eq hn
      subst e
      obtain ⟨a, vs, rfl, hx, lx, r'⟩ := hd
      have e1 := DenL.ints r'
      subst e1
      exact cr_sum hc pins s σ H _ us Q I r ⟨a, ns, rfl, hx, q _ _ (new_int sm _)⟩
  · cases ho
theorem ok_all (hc : X.calm = true) : CallR X (.builtin "all") (rC1 X.kw semAll) := by
  intro pins s σ H xs us Q I r h
  obtain ⟨x, rfl, F, d, o, sm, hd, ho, q⟩ := h
  unfold semAll at ho
  split at ho
  · rename_i ds
    cases hn : blsOf ds with
    | none => rw [hn] at ho; cases ho
    | some ns =>
      rw [hn] at ho
      cases ho
      have e := blsOf_eq hn
      subst e
      obtain ⟨a, vs, rfl, hx, lx, r'⟩ := hd
      have e1 := DenL.bls r'
      subst e1
      exact cr_all hc pins s σ H _ us Q I r ⟨a, ns, rfl, hx, q _ _ (new_bl sm _)⟩
  · cases ho
theorem ok_maxL (hc : X.calm = true) : CallR X (.builtin "max") (rC1 X.kw semMaxL) := by
  intro pins s σ H xs us Q I r h
  obtain ⟨x, rfl, F, d, o, sm, hd, ho, q⟩ := h
  unfold semMaxL at ho
  split at ho
  · split at ho
    · rename_i n ns hn
      cases ho
      have e := intsOf_eq hn
      subst e
      obtain ⟨a, vs, rfl, hx, lx, r'⟩ := hd
      have e1 := DenL.ints r'
      subst e1
      obtain ⟨m1, m2⟩ := mostI_mem (l := n :: ns) (by simp)
      refine cr_max hc pins s σ H _ us Q I r ⟨a, n :: ns, rfl, hx, by simp, fun m h1 h2 => ?_⟩
      have em : m = mostI (n :: ns) := Int.le_antisymm (m2 m h1) (h2 _ m1)
      rw [em]
      exact q _ _ (new_int sm _)
    · cases ho
  · cases ho
theorem ok_minL (hc : X.calm = true) : CallR X (.builtin "min") (rC1 X.kw semMinL) := by
  intro pins s σ H xs us Q I r h
  obtain ⟨x, rfl, F, d, o, sm, hd, ho, q⟩ := h
  unfold semMinL at ho
  split at ho
  · split at ho
    · rename_i n ns hn
      cases ho
      have e := intsOf_eq hn
      subst e
      obtain ⟨a, vs, rfl, hx, lx, r'⟩ := hd
      have e1 := DenL.ints r'
      subst e1
      obtain ⟨m1, m2⟩ := leastI_mem (l := n :: ns) (by simp)
      refine cr_min hc pins s σ H _ us Q I r ⟨a, n :: ns, rfl, hx, by simp, fun m h1 h2 => ?_⟩
      have em : m = leastI (n :: ns) := Int.le_antisymm (h2 _ m1) (m2 m h1)
      rw [em]
      exact q _ _ (new_int sm _)
    · cases ho
  · cases ho
theorem ok_min2 (hc : X.calm = true) : CallR X (.builtin "min") (rC2 X.kw semMin2) := by
  intro pins s σ H xs us Q I r h
  obtain ⟨x, y, rfl, F, d, e, o, sm, hd, he, ho, q⟩ := h
  unfold semMin2 at ho
  split at ho
  · cases ho
    exact call_min2 hc pins s σ H _ us Q I r ⟨_, _, by rw [show x = V.int _ from hd, show y = V.int _ from he], q _ _ (new_int sm _)⟩
  · cases ho
theorem ok_max2 (hc : X.calm = true) : CallR X (.builtin "max") (rC2 X.kw semMax2) := by
  intro pins s σ H xs us Q I r h
  obtain ⟨x, y, rfl, F, d, e, o, sm, hd, he, ho, q⟩ := h
  unfold semMax2 at ho
  split at ho
  · cases ho
    exact call_max2 hc pins s σ H _ us Q I r ⟨_, _, by rw [show x = V.int _ from hd, show y = V.int _ from he], q _ _ (new_int sm _)⟩
  · cases ho
end
end Dl

/-! D3: a small language of plain data, how it runs, and which text it stands for. -/
namespace Dl
open PySem PySem.Spec PyProof.Rows L2

inductive K1 where
  | len | int | list | tuple | sorted | neg | isi (t : String) | sset | abs | sum | all | maxL | minL | lrg
inductive K2 where
  | add | sub | mul | div | mod | pow | eq | ne | lt | le | gt | ge | is | isNot | isIn | notIn | at | index | join | min2 | max2 | bor
  deriving DecidableEq

def semNeg : Dat → Option Out
  | .int i => some (.val (.int (-i)))
  | _ => none
def sem1 : K1 → Dat → Option Out
  | .len => semLen
  | .int => semInt
  | .list => semList
  | .tuple => semTuple
  | .sorted => semSorted
  | .neg => semNeg
  | .isi t => semIsi t
  | .sset => semSset
  | .abs => semAbs
  | .sum => semSum
  | .all => semAll
  | .maxL => semMaxL
  | .minL => semMinL
  | .lrg => semLrg
def sem2 : K2 → Dat → Dat → Option Out
  | .add => semAdd
  | .sub => semSub
  | .mul => semMul
  | .div => semDiv
  | .mod => semMod
  | .pow => semPow
  | .eq => semEq
  | .ne => semNe
  | .lt => semLt
  | .le => semLe
  | .gt => semGt
  | .ge => semGe
  | .is => semIs
  | .isNot => semIsNot
  | .isIn => semIn
  | .notIn => semNotIn
  | .at => semAt
  | .index => semIndex
  | .join => semJoin
  | .min2 => semMin2
  | .max2 => semMax2
  | .bor => semBor
def isStr : Dat → Bool
  | .str _ => true
  | _ => false
def isDct : Dat → Bool
  | .dct _ _ => true
  | _ => false
def isLst : Dat → Bool
  | .lst _ => true
  | _ => false
/-- a method's receiver, known ahead of its arguments -/
def pre2 : K2 → Dat → Bool
  | .index, d => isStr d
  | .join, d => isStr d
  | _, _ => true

/-- a target: a name, or names of a tuple's items -/
inductive Tg where
  | name (i : Nat) | tup (is : List Nat)

mutual
inductive E where
  | var (i : Nat)
  | non | bl (b : Bool) | int (n : Int) | str (x : Str)
  | tup (es : Es) | lst (es : Es)
  | op1 (k : K1) (a : E) | op2 (k : K2) (a b : E)
  | cut (a : E) (lo hi : Oe) | rev (a : E)
  | and (a b : E) | or (a b : E) | not (a : E)
  | ite (t : T) (a b : E)
  | call (f : Str) (es : Es) | callB (f : Str) (es : Es)
  | pop (i : Nat) (a : E)
  | app (i : Nat) (a : E)
  | dct (es : Es) | setd (i : Nat) (k x : E) | ins (i : Nat) (a b : E) | pop0 (i : Nat) | ext (i : Nat) (a : E) | call0 (f : Str) | step (a : E) (lo : Oe) (st : E) | bor (e : E)
  | comp (own : List Nat) (tg : Tg) (src : Src) (c : Ot) (elt : E)
inductive Es where
  | nil | cons (e : E) (es : Es)
inductive Oe where
  | no | yes (e : E)
inductive Ot where
  | no | yes (t : T)
inductive T where
  | val (e : E) | cmp (k : K2) (a b : E) | not (t : T) | and (a b : T) | or (a b : T)
inductive Src where
  | seq (e : E) | rng1 (a : E) | rng2 (a b : E) | zip (es : Es) | enm (es : Es) | rng3 (es : Es)
end

mutual
inductive S where
  | expr (e : E) | set (i : Nat) (e : E) | unp (is : List Nat) (e : E) | setAt (i : Nat) (ix e : E) | aug (i : Nat) (k : K2) (e : E)
  | ife (t : T) (a b : Ss) | for_ (tg : Tg) (src : Src) (body : Ss) (wp : List Nat) | whl (t : T) (body : Ss) (wp : List Nat)
  | ret (e : E) | retN | pass | brk | cont
inductive Ss where
  | nil | cons (s : S) (ss : Ss)
end

/-- the defs that may be called: what they give (and leave in the list that they may change), and which parameter that is -/
structure Wd where
  phi : Str → List Dat → Option (Out × Dat)
  io : Str → Option (Option Nat)

def truthD : Dat → Option Bool
  | .non => some false
  | .bl b => some b
  | .int i => some (i != 0)
  | .str x => some ((x.length : Int) != 0)
  | .tup ds => some (!ds.isEmpty)
  | .lst ds => some (!ds.isEmpty)
  | _ => none

def wipeR (r : Rho) : List Nat → Rho
  | [] => r
  | i :: is => (wipeR r is).set i none
/-- behind a comprehension: its own slots as they were ahead of it, where they were settled -/
def back (r₁ : Rho) (r : Rho) : List Nat → Rho
  | [] => r
  | i :: is => (back r₁ r is).set i (match look r₁ i with | some ⟨d, .fz⟩ => some ⟨d, .fz⟩ | _ => none)
def putAll (r : Rho) : List Nat → List Dat → Option Rho
  | [], [] => some r
  | i :: is, d :: ds => putAll (r.set i (some ⟨d, .fz⟩)) is ds
  | _, _ => none
def bindT (r : Rho) : Tg → Dat → Option Rho
  | .name i, d => some (r.set i (some ⟨d, .fz⟩))
  | .tup is, .tup ds => putAll r is ds
  | _, _ => none
/-- what is walked of a datum -/
def items : Dat → Option (List Dat)
  | .lst ds => some ds
  | .tup ds => some ds
  | .str x => some ((signs x).map .str)
  | _ => none
def zipD : List Dat → List Dat → List Dat
  | x :: xs, y :: ys => .tup [x, y] :: zipD xs ys
  | _, _ => []
def enumD (i : Nat) : List Dat → List Dat
  | [] => []
  | x :: xs => .tup [.int (i : Nat), x] :: enumD (i + 1) xs
/-- lo, lo + c, .. (n of them) -/
def rangeC (lo c : Int) (n : Nat) : List Dat := (List.range n).map fun k => .int (lo + (k : Nat) * c)
def rngN (i j c : Int) : Option Nat := if c ≠ 0 ∧ c.natAbs < 1073741824 ∧ Builtin.Range.small i j c = true ∧ (Builtin.Range.rangeSize i j c).toNat ≤ sizeLine ∧ 0 ≤ Builtin.Range.rangeSize i j c then some (Builtin.Range.rangeSize i j c).toNat else none
def rangeD (lo : Int) (n : Nat) : List Dat := (List.range n).map fun k => .int (lo + (k : Nat))
/-- may this be handed over to be changed -/
def lend (r : Rho) : Out → Option Out
  | .fresh d => some (.fresh d)
  | .place i => match look r i with
    | some ⟨_, .fz⟩ => none
    | some _ => some (.place i)
    | none => none
  | .val _ => none
def resAll (r : Rho) : List Out → Option (List Dat)
  | [] => some []
  | o :: os => do
    let d ← res r o
    let ds ← resAll r os
    some (d :: ds)
/-- the changed list comes back -/
def giveBack (r : Rho) : Option Nat → List Out → Dat → Option Rho
  | none, _, _ => some r
  | some k, os, d => match os[k]? with
    | some (.place i) => match look r i with
      | some ⟨_, .own⟩ => some (r.set i (some ⟨d, .own⟩))
      | some ⟨_, .io⟩ => some (r.set i (some ⟨d, .io⟩))
      | _ => none
    | some (.fresh _) => some r
    | _ => none
/-- all slots settled -/
def fzAll (r : Rho) : Rho := r.map (Option.map fun s => ⟨s.d, .fz⟩)
/-- the items of a comprehension -/
def compD (f : Dat → Rho → Option (Option Dat × Rho)) : List Dat → Rho → Option (List Dat × Rho)
  | [], r => some ([], r)
  | d :: ds, r => do
    let (x, r) ← f d r
    let (xs, r) ← compD f ds r
    some ((match x with | some x => x :: xs | none => xs), r)

mutual
def run (W : Wd) : E → Rho → Option (Out × Rho)
  | .var i, r => do
    let _ ← look r i
    some (.place i, r)
  | .non, r => some (.val .non, r)
  | .bl b, r => some (.val (.bl b), r)
  | .int n, r => some (.val (.int n), r)
  | .str x, r => some (.val (.str x), r)
  | .tup es, r => do
    let (ds, r) ← runL W es r
    some (.val (.tup ds), r)
  | .lst es, r => do
    let (ds, r) ← runL W es r
    some (.fresh (.lst ds), r)
  | .op1 k a, r => do
    let (o, r) ← run W a r
    let d ← res r o
    let o ← sem1 k d
    some (o, r)
  | .op2 k a b, r => do
    let (o, r) ← run W a r
    let d1 ← res r o
    if pre2 k d1 = true then
      let (o2, r) ← run W b r
      let d ← res r o
      let e ← res r o2
      let o ← sem2 k d e
      some (o, r)
    else none
  | .cut a lo hi, r => do
    let (o, r) ← run W a r
    let (l, r) ← runO W lo r
    let (h, r) ← runO W hi r
    let d ← res r o
    let o ← semCut d l h
    some (o, r)
  | .rev a, r => do
    let (o, r) ← run W a r
    let d ← res r o
    let o ← semRev d
    some (o, r)
  | .and a b, r => do
    let (o, r) ← run W a r
    let (d, r) ← frz r o
    let t ← truthD d
    if t = true then run W b r else some (.val d, r)
  | .or a b, r => do
    let (o, r) ← run W a r
    let (d, r) ← frz r o
    let t ← truthD d
    if t = true then some (.val d, r) else run W b r
  | .not a, r => do
    let (o, r) ← run W a r
    let d ← res r o
    let t ← truthD d
    some (.val (.bl (!t)), r)
  | .ite t a b, r => do
    let (c, r) ← runT W t r
    if c = true then run W a r else run W b r
  | .call f es, r => do
    let io ← W.io f
    let (os, r) ← runA W es io r
    let ds ← resAll r os
    let (o, d) ← W.phi f ds
    let r ← giveBack r io os d
    some (o, r)
  | .callB f es, r => do
    let io ← W.io f
    if io = none then
      let (os, r) ← runP W es r
      let ds ← resAll r os
      let (o, _) ← W.phi f ds
      match o with
      | .val d => if flatD d = true then some (.val d, r) else none
      | _ => none
    else none
  | .pop i a, r => do
    let s ← look r i
    if isLst s.d = true then
      let (o, r) ← run W a r
      let d ← res r o
      match look r i, d with
      | some ⟨.lst ds, .own⟩, .int k => do
        let j ← ixN ds.length k
        let x ← ds[j]?
        some (.val x, r.set i (some ⟨.lst (ds.eraseIdx j), .own⟩))
      | some ⟨.lst ds, .io⟩, .int k => do
        let j ← ixN ds.length k
        let x ← ds[j]?
        some (.val x, r.set i (some ⟨.lst (ds.eraseIdx j), .io⟩))
      | _, _ => none
    else none
  | .app i a, r => do
    let s ← look r i
    if isLst s.d = true then
      let (o, r) ← run W a r
      let (x, r) ← frz r o
      match look r i with
      | some ⟨.lst ds, .own⟩ => if ds.length < sizeLine then some (.val .non, r.set i (some ⟨.lst (ds ++ [x]), .own⟩)) else none
      | some ⟨.lst ds, .io⟩ => if ds.length < sizeLine then some (.val .non, r.set i (some ⟨.lst (ds ++ [x]), .io⟩)) else none
      | _ => none
    else none
  | .dct es, r => do
    let (ds, r) ← runL W es r
    let d ← mkD ds [] []
    some (.fresh d, r)
  | .setd i k x, r => do
    let s ← look r i
    if isDct s.d = true then
      let (o, r) ← run W k r
      let (kd, r) ← frz r o
      let (o, r) ← run W x r
      let (xd, r) ← frz r o
      match look r i with
      | some ⟨.dct ks vs, .own⟩ => if okey ks kd = true ∧ ks.length < sizeLine ∧ vs.length = ks.length then (match getV kd ks vs with
          | some e => some (.val e, r)
          | none => some (.val xd, r.set i (some ⟨putD kd xd ks vs, .own⟩))) else none
      | some ⟨.dct ks vs, .io⟩ => if okey ks kd = true ∧ ks.length < sizeLine ∧ vs.length = ks.length then (match getV kd ks vs with
          | some e => some (.val e, r)
          | none => some (.val xd, r.set i (some ⟨putD kd xd ks vs, .io⟩))) else none
      | _ => none
    else none
  | .ins i a b, r => do
    let s ← look r i
    if isLst s.d = true then
      let (o, r) ← run W a r
      let (k, r) ← frz r o
      let (o, r) ← run W b r
      let (x, r) ← frz r o
      match look r i, k with
      | some ⟨.lst ds, .own⟩, .int k => if ds.length < sizeLine ∧ 0 ≤ k ∧ k < 2 ^ 63 then some (.val .non, r.set i (some ⟨.lst (ds.take k.toNat ++ [x] ++ ds.drop k.toNat), .own⟩)) else none
      | some ⟨.lst ds, .io⟩, .int k => if ds.length < sizeLine ∧ 0 ≤ k ∧ k < 2 ^ 63 then some (.val .non, r.set i (some ⟨.lst (ds.take k.toNat ++ [x] ++ ds.drop k.toNat), .io⟩)) else none
      | _, _ => none
    else none
  | .pop0 i, r => do
    let s ← look r i
    match s with
    | ⟨.lst ds, .own⟩ => do
      let x ← ds[ds.length - 1]?
      some (.val x, r.set i (some ⟨.lst ds.dropLast, .own⟩))
    | ⟨.lst ds, .io⟩ => do
      let x ← ds[ds.length - 1]?
      some (.val x, r.set i (some ⟨.lst ds.dropLast, .io⟩))
    | _ => none
  | .ext i a, r => do
    let s ← look r i
    if isLst s.d = true then
      let (o, r) ← run W a r
      match look r i, o with
      | some ⟨.lst ds, .own⟩, .fresh (.lst es) => if ds.length + es.length ≤ sizeLine then some (.val .non, r.set i (some ⟨.lst (ds ++ es), .own⟩)) else none
      | some ⟨.lst ds, .io⟩, .fresh (.lst es) => if ds.length + es.length ≤ sizeLine then some (.val .non, r.set i (some ⟨.lst (ds ++ es), .io⟩)) else none
      | _, _ => none
    else none
  | .call0 f, r => do
    let io ← W.io f
    if io = none then
      let (o, _) ← W.phi f []
      some (o, r)
    else none
  | .step a lo st, r => do
    let (o, r) ← run W a r
    let (l, r) ← runO W lo r
    let (o2, r) ← run W st r
    let d ← res r o
    match res r o2 with
    | some (.int k) => do
      let o ← semStep d l k
      some (o, r)
    | _ => none
  | .bor e, r => do
    let (o, _) ← run W e (fzAll r)
    match o with
    | .fresh (.lst xs) => if xs.all flatD = true then some (.fresh (.lst xs), r) else none
    | .val d => if flatD d = true then some (.val d, r) else none
    | _ => none
  | .comp own tg src c elt, r => do
    let (ds, r₁) ← runI W src r
    let (xs, r₂) ← compD (fun d r => do
      let r ← bindT r tg d
      let (t, r) ← runOt W c r
      if t = true then
        let (o, r) ← run W elt r
        let (x, r) ← frz r o
        some (some x, wipeR r own)
      else some (none, wipeR r own)) ds (wipeR r₁ own)
    some (.fresh (.lst xs), back r₁ r₂ own)
def runL (W : Wd) : Es → Rho → Option (List Dat × Rho)
  | .nil, r => some ([], r)
  | .cons e es, r => do
    let (o, r) ← run W e r
    let (d, r) ← frz r o
    let (ds, r) ← runL W es r
    some (d :: ds, r)
def runA (W : Wd) : Es → Option Nat → Rho → Option (List Out × Rho)
  | .nil, _, r => some ([], r)
  | .cons e es, some 0, r => do
    let (o, r) ← run W e r
    let o ← lend r o
    let (os, r) ← runA W es none r
    some (o :: os, r)
  | .cons e es, some (k + 1), r => do
    let (o, r) ← run W e r
    let (d, r) ← frz r o
    let (os, r) ← runA W es (some k) r
    some (.val d :: os, r)
  | .cons e es, none, r => do
    let (o, r) ← run W e r
    let (d, r) ← frz r o
    let (os, r) ← runA W es none r
    some (.val d :: os, r)
def runP (W : Wd) : Es → Rho → Option (List Out × Rho)
  | .nil, r => some ([], r)
  | .cons e es, r => do
    let (o, r) ← run W e r
    let (os, r) ← runP W es r
    some (o :: os, r)
def runO (W : Wd) : Oe → Rho → Option (Option Int × Rho)
  | .no, r => some (none, r)
  | .yes e, r => do
    let (o, r) ← run W e r
    match res r o with
    | some (.int i) => some (some i, r)
    | _ => none
def runOt (W : Wd) : Ot → Rho → Option (Bool × Rho)
  | .no, r => some (true, r)
  | .yes t, r => runT W t r
def runT (W : Wd) : T → Rho → Option (Bool × Rho)
  | .val e, r => do
    let (o, r) ← run W e r
    let d ← res r o
    let t ← truthD d
    some (t, r)
  | .cmp k a b, r => do
    let (o, r) ← run W a r
    let (o2, r) ← run W b r
    let d ← res r o
    let e ← res r o2
    match sem2 k d e with
    | some (.val (.bl t)) => some (t, r)
    | _ => none
  | .not t, r => do
    let (c, r) ← runT W t r
    some (!c, r)
  | .and a b, r => do
    let (c, r) ← runT W a r
    if c = true then runT W b r else some (false, r)
  | .or a b, r => do
    let (c, r) ← runT W a r
    if c = true then some (true, r) else runT W b r
def runI (W : Wd) : Src → Rho → Option (List Dat × Rho)
  | .seq e, r => do
    let (o, r) ← run W e r
    let (d, r) ← frz r o
    let ds ← items d
    some (ds, r)
  | .rng1 a, r => do
    let (o, r) ← run W a r
    match res r o with
    | some (.int n) => if -(2 ^ 62) ≤ n ∧ n.toNat ≤ sizeLine then some (rangeD 0 n.toNat, r) else none
    | _ => none
  | .rng2 a b, r => do
    let (o, r) ← run W a r
    let (o2, r) ← run W b r
    match res r o, res r o2 with
    | some (.int i), some (.int j) => if -(2 ^ 62) ≤ i ∧ i < 2 ^ 62 ∧ -(2 ^ 62) ≤ j ∧ j < 2 ^ 62 ∧ (j - i).toNat ≤ sizeLine then some (rangeD i (j - i).toNat, r) else none
    | _, _ => none
  | .zip es, r => do
    let (ds, r) ← runL W es r
    match ds with
    | [d, e] => do
      let xs ← items d
      let ys ← items e
      some (zipD xs ys, r)
    | _ => none
  | .enm es, r => do
    let (ds, r) ← runL W es r
    match ds with
    | [d] => do
      let xs ← items d
      some (enumD 0 xs, r)
    | _ => none
  | .rng3 es, r => do
    let (ds, r) ← runL W es r
    match ds with
    | [.int i, .int j, .int c] => do
      let n ← rngN i j c
      some (rangeC i c n, r)
    | _ => none
end

/-- how a statement ends -/
inductive Fl where
  | next (r : Rho) | ret (o : Out) (r : Rho) | brk (r : Rho) | cont (r : Rho)
def forD (f : Dat → Rho → Option Fl) (wp : List Nat) : List Dat → Rho → Option Fl
  | [], r => some (.next r)
  | d :: ds, r => match f d r with
    | some (.next r) => forD f wp ds (wipeR r wp)
    | some (.cont r) => forD f wp ds (wipeR r wp)
    | some (.brk r) => some (.next (wipeR r wp))
    | some (.ret o r) => some (.ret o r)
    | none => none
def whlD (c : Rho → Option (Bool × Rho)) (b : Rho → Option Fl) (wp : List Nat) : Nat → Rho → Option Fl
  | 0, _ => none
  | n + 1, r => match c r with
    | some (true, r) => match b r with
      | some (.next r) => whlD c b wp n (wipeR r wp)
      | some (.cont r) => whlD c b wp n (wipeR r wp)
      | some (.brk r) => some (.next (wipeR r wp))
      | some (.ret o r) => some (.ret o r)
      | none => none
    | some (false, r) => some (.next (wipeR r wp))
    | none => none
/-- a slot takes what an expression gave -/
def store (r : Rho) (i : Nat) : Out → Option Rho
  | .val d => some (r.set i (some ⟨d, .fz⟩))
  | .fresh d => some (r.set i (some ⟨d, .own⟩))
  | .place j => do
    let (d, r) ← frz r (.place j)
    some (r.set i (some ⟨d, .fz⟩))
mutual
def runS (W : Wd) (n : Nat) : S → Rho → Option Fl
  | .expr e, r => do
    let (_, r) ← run W e r
    some (.next r)
  | .set i e, r => do
    let (o, r) ← run W e r
    let r ← store r i o
    some (.next r)
  | .unp is e, r => do
    let (o, r) ← run W e r
    let (d, r) ← frz r o
    match d with
    | .tup ds => do
      let r ← putAll r is ds
      some (.next r)
    | _ => none
  | .setAt i ix e, r => do
    let (o, r) ← run W e r
    let (x, r) ← frz r o
    let _ ← look r i
    let (o2, r) ← run W ix r
    match look r i, res r o2 with
    | some ⟨.lst ds, .own⟩, some (.int k) => do
      let j ← ixN ds.length k
      some (.next (r.set i (some ⟨.lst (ds.set j x), .own⟩)))
    | some ⟨.lst ds, .io⟩, some (.int k) => do
      let j ← ixN ds.length k
      some (.next (r.set i (some ⟨.lst (ds.set j x), .io⟩)))
    | some ⟨.dct ks vs, .own⟩, some k => if okey ks k = true ∧ ks.length < sizeLine then some (.next (r.set i (some ⟨putD k x ks vs, .own⟩))) else none
    | some ⟨.dct ks vs, .io⟩, some k => if okey ks k = true ∧ ks.length < sizeLine then some (.next (r.set i (some ⟨putD k x ks vs, .io⟩))) else none
    | _, _ => none
  | .aug i k e, r => do
    let _ ← look r i
    let (o, r) ← run W e r
    match look r i, res r o with
    | some ⟨.int x, .fz⟩, some (.int y) => match k with
      | .add => some (.next (r.set i (some ⟨.int (x + y), .fz⟩)))
      | .sub => some (.next (r.set i (some ⟨.int (x - y), .fz⟩)))
      | _ => none
    | some ⟨.str x, .fz⟩, some (.str y) => match k with
      | .add => if x.length + y.length ≤ sizeLine then some (.next (r.set i (some ⟨.str (x ++ y), .fz⟩))) else none
      | _ => none
    | _, _ => none
  | .ife t a b, r => do
    let (c, r) ← runT W t r
    if c = true then runB W n a r else runB W n b r
  | .for_ tg src body wp, r => do
    let (ds, r) ← runI W src r
    forD (fun d r => do
      let r ← bindT r tg d
      runB W n body r) wp ds (wipeR r wp)
  | .whl t body wp, r => whlD (runT W t) (runB W n body) wp n (wipeR r wp)
  | .ret e, r => do
    let (o, r) ← run W e r
    some (.ret o r)
  | .retN, r => some (.ret (.val .non) r)
  | .pass, r => some (.next r)
  | .brk, r => some (.brk r)
  | .cont, r => some (.cont r)
def runB (W : Wd) (n : Nat) : Ss → Rho → Option Fl
  | .nil, r => some (.next r)
  | .cons s ss, r => match runS W n s r with
    | some (.next r) => runB W n ss r
    | x => x
end

/-- a def: its names, how many of them are parameters, which one it may change, its body -/
structure Df where
  N : List Str
  ps : Nat
  io : Option Nat
  body : Ss
def startR (D : Df) (ds : List Dat) : Rho :=
  ds.mapIdx (fun i d => some ⟨d, if D.io = some i then .io else .fz⟩) ++ List.replicate (D.N.length - ds.length) none
/-- what a def leaves in the list that it may change -/
def leftR (D : Df) (r : Rho) : Option Dat :=
  match D.io with
  | none => some .non
  | some i => match look r i with
    | some ⟨d, .io⟩ => some d
    | _ => none
/-- a def's run -/
def runD (W : Wd) (n : Nat) (D : Df) (ds : List Dat) : Option (Out × Dat) :=
  if ds.length = D.ps then
    match runB W n D.body (startR D ds) with
    | some (.next r) => do
      let d ← leftR D r
      some (.val .non, d)
    | some (.ret (.val x) r) => do
      let d ← leftR D r
      some (.val x, d)
    | some (.ret (.fresh x) r) => do
      let d ← leftR D r
      some (.fresh x, d)
    | some (.ret (.place j) r) => match look r j with
      | some ⟨x, .fz⟩ => do
        let d ← leftR D r
        some (.val x, d)
      | some ⟨x, .own⟩ => do
        let d ← leftR D r
        some (.fresh x, d)
      | _ => none
    | _ => none
  else none
/-- a text's defs, called to the depth k -/
def Phi (T : List (Str × Df)) (n : Nat) : Nat → Wd
  | 0 => ⟨fun _ _ => none, fun f => (T.lookup f).map (·.io)⟩
  | k + 1 => ⟨fun f ds => match T.lookup f with | some D => runD (Phi T n k) n D ds | none => none, fun f => (T.lookup f).map (·.io)⟩
end Dl

/-! D4: the readings of the small language, and how they fit the layer's own. -/
namespace Dl
open PySem PySem.Spec PyProof.Rows L2

theorem bindS {α β : Type} {x : Option α} {f : α → Option β} {b : β} (h : x.bind f = some b) : ∃ a, x = some a ∧ f a = some b := Option.bind_eq_some_iff.mp h

theorem PE.imp {X : Cx} {e : Expr} {t t' : TE} (h : PE X e t) (i : ∀ σ H Q, t' σ H Q → t σ H Q) : PE X e t' := ⟨fun pins s σ H Q I q => h.run pins s σ H Q I (i σ H Q q)⟩
theorem PT.imp {X : Cx} {e : Expr} {t t' : TT} (h : PT X e t) (i : ∀ σ H Q, t' σ H Q → t σ H Q) : PT X e t' := ⟨fun pins s σ H Q I q => h.run pins s σ H Q I (i σ H Q q)⟩
theorem PA.imp {X : Cx} {e : List Expr} {t t' : TA} (h : PA X e t) (i : ∀ σ H Q, t' σ H Q → t σ H Q) : PA X e t' := ⟨fun pos pins s σ H Q I q => h.run pos pins s σ H Q I (i σ H Q q)⟩
theorem PS.imp {X : Cx} {e : Stmt} {t t' : TS} (h : PS X e t) (i : ∀ D σ H, t' D σ H → t D σ H) : PS X e t' := ⟨fun pins s σ H D I q => h.run pins s σ H D I (i D σ H q)⟩
theorem PSs.imp {X : Cx} {e : List Stmt} {t t' : TS} (h : PSs X e t) (i : ∀ D σ H, t' D σ H → t D σ H) : PSs X e t' := ⟨fun pins s σ H D I q => h.run pins s σ H D I (i D σ H q)⟩

/-! ### a thing that stays while something else is reckoned -/
def Fr.guard (A : Fr) (a : Addr) (o : HO) : Fr := { A with H0 := upd A.H0 a o }
section
variable {A : Fr} {r : Rho} {F H : Hp} {σ : L2.St} {a : Addr} {o : HO}
theorem Fit.guard (h : Fit A r F σ H) (ho : H a = some o) (hf : F a = none) (hi : ¬ A.io a) (hm : ¬ Mine r σ a) : Fit (A.guard a o) r F σ H := by
  refine ⟨h.sub, fun b u e x => ?_, fun b u e => ?_, h.f0, h.ioh, fun i s e => ?_, h.sep, h.pro, h.len⟩
  · have e : upd A.H0 a o b = some u := e
    by_cases hb : b = a
    · subst hb
      rw [upd_same] at e
      cases e
      exact ho
    · rw [upd_ne hb] at e
      exact h.keep b u e x
  · rcases h.newf b u e with q | q
    · exact .inl q
    · refine .inr ?_
      show upd A.H0 a o b = none
      by_cases hb : b = a
      · subst hb
        rw [hf] at e
        cases e
      · rw [upd_ne hb]
        exact q
  · obtain ⟨v, e1, e2⟩ := h.slot i s e
    refine ⟨v, e1, ?_⟩
    unfold SlotOk at e2 ⊢
    split
    · rename_i z
      rw [z] at e2
      exact e2
    · rename_i z
      rw [z] at e2
      obtain ⟨b, rfl, h1, h2, h3, h4⟩ := e2
      refine ⟨b, rfl, h1, ?_, h3, h4⟩
      show upd A.H0 a o b = none
      rw [upd_ne (fun w => hm ⟨i, s, e, by rw [z]; decide, by rw [e1, w]⟩)]
      exact h2
    · rename_i z
      rw [z] at e2
      exact e2
theorem Fit.unguard (h : Fit (A.guard a o) r F σ H) (h0 : A.H0 a = none) (hf0 : A.F0 a = none) (hi : ¬ A.io a) : Fit A r F σ H ∧ H a = some o ∧ F a = none ∧ ¬ Mine r σ a := by
  have g : (A.guard a o).H0 a = some o := upd_same
  have gn : ∀ {b}, b ≠ a → (A.guard a o).H0 b = A.H0 b := fun {b} hb => upd_ne hb
  have fa : F a = none := by
    cases q : F a with
    | none => rfl
    | some u =>
      rcases h.newf a u q with z | z
      · rw [show (A.guard a o).F0 a = A.F0 a from rfl, hf0] at z
        cases z
      · rw [g] at z
        cases z
  refine ⟨⟨h.sub, fun b u e x => h.keep b u (by rw [gn (fun w => by rw [w, h0] at e; cases e)]; exact e) x, fun b u e => ?_, h.f0, h.ioh, fun i s e => ?_, h.sep, h.pro, h.len⟩, h.keep a o g hi, fa, fun m => ?_⟩
  · have hb : b ≠ a := fun w => by rw [w, fa] at e; cases e
    rcases h.newf b u e with z | z
    · exact .inl z
    · rw [gn hb] at z
      exact .inr z
  · obtain ⟨v, e1, e2⟩ := h.slot i s e
    refine ⟨v, e1, ?_⟩
    unfold SlotOk at e2 ⊢
    split
    · rename_i z
      rw [z] at e2
      exact e2
    · rename_i z
      rw [z] at e2
      obtain ⟨b, rfl, h1, h2, h3, h4⟩ := e2
      have hb : b ≠ a := fun w => by rw [w, g] at h2; cases h2
      exact ⟨b, rfl, h1, by rw [← gn hb]; exact h2, h3, h4⟩
    · rename_i z
      rw [z] at e2
      exact e2
  · obtain ⟨h1, h2, _⟩ := h.mine m
    rcases h2 with ⟨z, _⟩ | z
    · rw [g] at z
      cases z
    · exact hi z
/-- other slots' values: what r knows is as it was -/
theorem Fit.moved (h : Fit A r F σ H) {r' : Rho} {σ' : L2.St} (hl : r'.length = σ'.length) (hs : ∀ (i : Nat) (s : Sl), r'[i]? = some (some s) → r[i]? = some (some s) ∧ σ'[i]? = σ[i]?) (hp : ∀ p ∈ A.pro, σ'[p.1]? = some (some p.2)) : Fit A r' F σ' H := by
  refine ⟨h.sub, h.keep, h.newf, h.f0, h.ioh, fun i s e => ?_, fun i j s t b n e1 m1 e2 m2 s1 => ?_, hp, hl⟩
  · obtain ⟨q1, q2⟩ := hs i s e
    obtain ⟨v, e1, e2⟩ := h.slot i s q1
    exact ⟨v, q2.trans e1, e2⟩
  · obtain ⟨q1, q2⟩ := hs i s e1
    obtain ⟨q3, q4⟩ := hs j t e2
    rw [q2] at s1
    rw [q4]
    exact h.sep i j s t b n q1 m1 q3 m2 s1
end

/-! ### the readings -/
structure Ok (K : Kw) (pro : List Nat) (A : Fr) : Prop where
  k : A.K = K
  p : ∀ p ∈ A.pro, p.1 ∈ pro
theorem Ok.guard {K : Kw} {pro : List Nat} {A : Fr} (h : Ok K pro A) (a : Addr) (o : HO) : Ok K pro (A.guard a o) := ⟨h.k, h.p⟩

section
variable (K : Kw) (pro : List Nat)
def rdE (m : Rho → Option (Out × Rho)) : TE := fun σ H Q => ∃ A r F o r', Ok K pro A ∧ Fit A r F σ H ∧ m r = some (o, r') ∧ ∀ v F' H', Same F F' → Fit A r' F' σ H' → OutOk A r' F' σ H' o v → Q v H'
def rdL (m : Rho → Option (List Dat × Rho)) : TA := fun σ H Q => ∃ A r F ds r', Ok K pro A ∧ Fit A r F σ H ∧ m r = some (ds, r') ∧ ∀ vs F' H', Same F F' → Fit A r' F' σ H' → DenL A.K F' ds vs → Q vs H'
def rdT (m : Rho → Option (Bool × Rho)) : TT := fun σ H Q => ∃ A r F b r', Ok K pro A ∧ Fit A r F σ H ∧ m r = some (b, r') ∧ ∀ F' H', Same F F' → Fit A r' F' σ H' → Q b H'
def rdO (m : Rho → Option (Option Int × Rho)) : TO := fun σ H Q => ∃ A r F b r', Ok K pro A ∧ Fit A r F σ H ∧ m r = some (b, r') ∧ ∀ F' H', Same F F' → Fit A r' F' σ H' → Q b H'
/-- arguments: settled, or one that is lent -/
def OutsOk (A : Fr) (r : Rho) (F : Hp) (σ : L2.St) (H : Hp) : List Out → List V → Prop
  | [], vs => vs = []
  | o :: os, vs => ∃ v ws, vs = v :: ws ∧ OutOk A r F σ H o v ∧ OutsOk A r F σ H os ws
def rdA (m : Rho → Option (List Out × Rho)) : TA := fun σ H Q => ∃ A r F os r', Ok K pro A ∧ Fit A r F σ H ∧ m r = some (os, r') ∧ ∀ vs F' H', Same F F' → Fit A r' F' σ H' → OutsOk A r' F' σ H' os vs → Q vs H'
/-- what a statement reaches -/
def FlOk (A : Fr) (F : Hp) (D : Ends) : Fl → Prop
  | .next r' => ∀ σ' F' H', Same F F' → Fit A r' F' σ' H' → D.nx σ' H'
  | .brk r' => ∀ σ' F' H', Same F F' → Fit A r' F' σ' H' → D.bk σ' H'
  | .cont r' => ∀ σ' F' H', Same F F' → Fit A r' F' σ' H' → D.ct σ' H'
  | .ret o r' => ∀ v σ' F' H', Same F F' → Fit A r' F' σ' H' → OutOk A r' F' σ' H' o v → D.rt v H'
def rdS (m : Rho → Option Fl) : TS := fun D σ H => ∃ A r F fl, Ok K pro A ∧ Fit A r F σ H ∧ m r = some fl ∧ FlOk A F D fl
end

section
variable {K : Kw} {pro : List Nat} {W : Wd}
/-- two operands and an operation upon them -/
theorem imp_op2 {k : K2} {a b : E} {σ : L2.St} {H : Hp} {Q : VK} (h : rdE K pro (run W (.op2 k a b)) σ H Q) :
    tOp (rD2 K (sem2 k)) (rdE K pro (run W a)) (rdE K pro (run W b)) σ H Q := by
  obtain ⟨A, r, F, o, _, ok, fit, hm, q⟩ := h
  unfold run at hm
  obtain ⟨⟨oa, r1⟩, ha, hm⟩ := bindS hm
  obtain ⟨d1, hd1, hm⟩ := bindS hm
  dsimp only at hm
  split at hm
  · obtain ⟨⟨ob, r2⟩, hb, hm⟩ := bindS hm
    obtain ⟨d, hd, hm⟩ := bindS hm
    obtain ⟨e, he, hm⟩ := bindS hm
    obtain ⟨o3, ho, hm⟩ := bindS hm
    cases hm
    refine ⟨A, r, F, oa, _, ok, fit, ha, fun v1 F1 H1 s1 f1 k1 => ?_⟩
    obtain ⟨F1', s1', f1', h1⟩ := f1.hold k1
    refine ⟨A, r1, F1', ob, _, ok, f1', hb, fun v2 F2 H2 s2 f2 k2 => ?_⟩
    obtain ⟨F2', s2', f2', h2⟩ := f2.hold k2
    have g1 := Held.seen f2' (h1.mono (s2.trans s2')) hd
    have g2 := Held.seen f2' h2 he
    rw [ok.k] at g1 g2
    refine ⟨F2', d, e, _, f2'.sub, g1, g2, ho, fun v H' nw => ?_⟩
    rw [← ok.k] at nw
    obtain ⟨F3, s3, f3, k3⟩ := f2'.made nw
    exact q v F3 H' (((s1.trans s1').trans (s2.trans s2')).trans s3) f3 k3
  · cases hm
/-- a method of a text, one argument -/
theorem imp_meth {k : K2} {a b : E} {σ : L2.St} {H : Hp} {Q : VK} (hp : ∀ d, pre2 k d = isStr d) (h : rdE K pro (run W (.op2 k a b)) σ H Q) :
    tBM K "str" (rM1 K (sem2 k)) (rdE K pro (run W a)) (tCons (rdE K pro (run W b)) tNil) σ H Q := by
  obtain ⟨A, r, F, o, _, ok, fit, hm, q⟩ := h
  unfold run at hm
  obtain ⟨⟨oa, r1⟩, ha, hm⟩ := bindS hm
  obtain ⟨d1, hd1, hm⟩ := bindS hm
  dsimp only at hm
  split at hm
  · rename_i hpre
    rw [hp] at hpre
    obtain ⟨⟨ob, r2⟩, hb, hm⟩ := bindS hm
    obtain ⟨d, hd, hm⟩ := bindS hm
    obtain ⟨e, he, hm⟩ := bindS hm
    obtain ⟨o3, ho, hm⟩ := bindS hm
    cases hm
    refine ⟨A, r, F, oa, _, ok, fit, ha, fun v1 F1 H1 s1 f1 k1 => ?_⟩
    obtain ⟨F1', s1', f1', h1⟩ := f1.hold k1
    have hs : tyV K "str" v1 H1 := by
      have g := Held.seen f1' h1 hd1
      cases d1 with
      | str z => rw [g.1]; exact rfl
      | _ => exact absurd (show false = true from hpre) Bool.false_ne_true
    refine ⟨hs, A, r1, F1', ob, r2, ok, f1', hb, fun v2 F2 H2 s2 f2 k2 => ?_⟩
    obtain ⟨F2', s2', f2', h2⟩ := f2.hold k2
    have g1 := Held.seen f2' (h1.mono (s2.trans s2')) hd
    have g2 := Held.seen f2' h2 he
    rw [ok.k] at g1 g2
    refine ⟨v2, rfl, F2', d, e, _, f2'.sub, g1, g2, ho, fun v H' nw => ?_⟩
    rw [← ok.k] at nw
    obtain ⟨F3, s3, f3, k3⟩ := f2'.made nw
    exact q v F3 H' (((s1.trans s1').trans (s2.trans s2')).trans s3) f3 k3
  · cases hm
/-- one operand -/
theorem imp_op1 {k : K1} {a : E} {σ : L2.St} {H : Hp} {Q : VK} (h : rdE K pro (run W (.op1 k a)) σ H Q) :
    rdE K pro (run W a) σ H fun x H1 => rD1 K (sem1 k) x H1 Q := by
  obtain ⟨A, r, F, o, _, ok, fit, hm, q⟩ := h
  unfold run at hm
  obtain ⟨⟨oa, r1⟩, ha, hm⟩ := bindS hm
  obtain ⟨d, hd, hm⟩ := bindS hm
  obtain ⟨o3, ho, hm⟩ := bindS hm
  cases hm
  refine ⟨A, r, F, oa, _, ok, fit, ha, fun v1 F1 H1 s1 f1 k1 => ?_⟩
  obtain ⟨F1', s1', f1', h1⟩ := f1.hold k1
  have g1 := Held.seen f1' h1 hd
  rw [ok.k] at g1
  refine ⟨F1', d, _, f1'.sub, g1, ho, fun v H' nw => ?_⟩
  rw [← ok.k] at nw
  obtain ⟨F3, s3, f3, k3⟩ := f1'.made nw
  exact q v F3 H' ((s1.trans s1').trans s3) f3 k3
theorem imp_call1 {k : K1} {a : E} {σ : L2.St} {H : Hp} {Q : VK} (h : rdE K pro (run W (.op1 k a)) σ H Q) :
    tCB (rC1 K (sem1 k)) (tCons (rdE K pro (run W a)) tNil) σ H Q := by
  obtain ⟨A, r, F, o, _, ok, fit, hm, q⟩ := imp_op1 h
  exact ⟨A, r, F, o, _, ok, fit, hm, fun v F' H' s f k => ⟨v, rfl, q v F' H' s f k⟩⟩
theorem imp_call2 {k : K2} {a b : E} {σ : L2.St} {H : Hp} {Q : VK} (h : rdE K pro (run W (.op2 k a b)) σ H Q) :
    tCB (rC2 K (sem2 k)) (tCons (rdE K pro (run W a)) (tCons (rdE K pro (run W b)) tNil)) σ H Q := by
  obtain ⟨A, r, F, o, _, ok, fit, hm, q⟩ := imp_op2 h
  refine ⟨A, r, F, o, _, ok, fit, hm, fun v F' H' s f k => ?_⟩
  obtain ⟨A2, r2, F2, o2, _, ok2, fit2, hm2, q2⟩ := q v F' H' s f k
  exact ⟨A2, r2, F2, o2, _, ok2, fit2, hm2, fun v2 F3 H3 s3 f3 k3 => ⟨v, v2, rfl, q2 v2 F3 H3 s3 f3 k3⟩⟩
theorem imp_sset {X : Cx} {a : E} {σ : L2.St} {H : Hp} {Q : VK} (h : rdE X.kw pro (run W (.op1 .sset a)) σ H Q) :
    tCB (rSortSS X) (tCons (tCB (rSetS X) (tCons (rdE X.kw pro (run W a)) tNil)) tNil) σ H Q := by
  obtain ⟨A, r, F, o, _, ok, fit, hm, q⟩ := imp_op1 h
  exact ⟨A, r, F, o, _, ok, fit, hm, fun v F' H' s f k => sset_rule (F := F') (q v F' H' s f k)⟩
theorem imp_isi {t : String} {a : E} {σ : L2.St} {H : Hp} {Q : VK} (h : rdE K pro (run W (.op1 (.isi t) a)) σ H Q) :
    tCB (fun xs H Q => ∃ x, xs = [x, .ty t] ∧ rD1 K (semIsi t) x H Q) (tCons (rdE K pro (run W a)) (tCons (tC (.ty t)) tNil)) σ H Q := by
  obtain ⟨A, r, F, o, _, ok, fit, hm, q⟩ := imp_op1 h
  exact ⟨A, r, F, o, _, ok, fit, hm, fun v F' H' s f k => ⟨v, rfl, q v F' H' s f k⟩⟩
theorem imp_neg {a : E} {σ : L2.St} {H : Hp} {Q : VK} (h : rdE K pro (run W (.op1 .neg a)) σ H Q) :
    tUn (rU fun i => .int (-i)) (rdE K pro (run W a)) σ H Q := by
  obtain ⟨A, r, F, o, _, ok, fit, hm, q⟩ := imp_op1 h
  refine ⟨A, r, F, o, _, ok, fit, hm, fun v F' H' s f k => ?_⟩
  obtain ⟨F1, d, o1, sm, hd, ho, q⟩ := q v F' H' s f k
  have ho : semNeg d = some o1 := ho
  unfold semNeg at ho
  split at ho
  · cases ho
    exact ⟨_, hd, q _ _ (new_int sm _)⟩
  · cases ho
theorem imp_lrg {a : E} {σ : L2.St} {H : Hp} {Q : VK} (h : rdE K pro (run W (.op1 .lrg a)) σ H Q) :
    tLstRg (tRg1 (rdE K pro (run W a))) σ H Q := by
  obtain ⟨A, r, F, o, _, ok, fit, hm, q⟩ := imp_op1 h
  refine ⟨A, r, F, o, _, ok, fit, hm, fun v F' H' s f k => ?_⟩
  obtain ⟨F1, d, o1, sm, hd, ho, q⟩ := q v F' H' s f k
  have ho : semLrg d = some o1 := ho
  cases d with
  | int n =>
    unfold semLrg at ho
    dsimp only at ho
    split at ho
    · rename_i hc
      cases ho
      have hd : v = .int n := hd
      refine ⟨n, hd, ⟨by omega, by omega, hc.1, by omega, by omega⟩, fun p hp => ?_⟩
      have e : rgV 0 n = ((List.range n.toNat).map fun k => (0 + (k : Nat) : Int)).map V.int := by
        unfold rgV
        rw [List.map_map, show n - 0 = n from by omega]
        rfl
      have e2 : ((List.range n.toNat).map fun k => Dat.int (0 + (k : Nat))) = ((List.range n.toNat).map fun k => (0 + (k : Nat) : Int)).map Dat.int := by
        rw [List.map_map]
        rfl
      rw [e]
      refine q _ _ ?_
      rw [e2]
      refine NewOk.lst sm hp ?_ (DenL.of_ints _)
      rw [List.length_map, List.length_map, List.length_range, sizeLine_eq]
      omega
    · cases ho
  | _ => cases ho
/-- slices -/
theorem imp_cut {a : E} {lo hi : Oe} {σ : L2.St} {H : Hp} {Q : VK} (h : rdE K pro (run W (.cut a lo hi)) σ H Q) :
    tSl (rCut K) (rdE K pro (run W a)) (rdO K pro (runO W lo)) (rdO K pro (runO W hi)) σ H Q := by
  obtain ⟨A, r, F, o, _, ok, fit, hm, q⟩ := h
  unfold run at hm
  obtain ⟨⟨oa, r1⟩, ha, hm⟩ := bindS hm
  obtain ⟨⟨l, r2⟩, hl, hm⟩ := bindS hm
  obtain ⟨⟨u, r3⟩, hu, hm⟩ := bindS hm
  obtain ⟨d, hd, hm⟩ := bindS hm
  obtain ⟨o3, ho, hm⟩ := bindS hm
  cases hm
  refine ⟨A, r, F, oa, _, ok, fit, ha, fun v1 F1 H1 s1 f1 k1 => ?_⟩
  obtain ⟨F1', s1', f1', h1⟩ := f1.hold k1
  refine ⟨A, r1, F1', l, _, ok, f1', hl, fun F2 H2 s2 f2 => ?_⟩
  refine ⟨A, r2, F2, u, _, ok, f2, hu, fun F3 H3 s3 f3 => ?_⟩
  have g1 := Held.seen f3 (h1.mono (s2.trans s3)) hd
  rw [ok.k] at g1
  refine ⟨F3, d, _, f3.sub, g1, ho, fun v H' nw => ?_⟩
  rw [← ok.k] at nw
  obtain ⟨F4, s4, f4, k4⟩ := f3.made nw
  exact q v F4 H' (((s1.trans s1').trans (s2.trans s3)).trans s4) f4 k4
theorem imp_no {σ : L2.St} {H : Hp} {Q : Option Int → Hp → Prop} (h : rdO K pro (runO W .no) σ H Q) : tNoPart σ H Q := by
  obtain ⟨A, r, F, o, _, ok, fit, hm, q⟩ := h
  unfold runO at hm
  cases hm
  exact q F H (Same.refl F) fit
theorem imp_yes {e : E} {σ : L2.St} {H : Hp} {Q : Option Int → Hp → Prop} (h : rdO K pro (runO W (.yes e)) σ H Q) : tPart (rdE K pro (run W e)) σ H Q := by
  obtain ⟨A, r, F, o, _, ok, fit, hm, q⟩ := h
  unfold runO at hm
  obtain ⟨⟨oa, r1⟩, ha, hm⟩ := bindS hm
  dsimp only at hm
  split at hm
  · rename_i i hi
    cases hm
    refine ⟨A, r, F, oa, _, ok, fit, ha, fun v1 F1 H1 s1 f1 k1 => ?_⟩
    obtain ⟨F1', s1', f1', h1⟩ := f1.hold k1
    have g1 := Held.seen f1' h1 hi
    exact ⟨i, g1, q F1' H1 (s1.trans s1') f1'⟩
  · cases hm
theorem imp_rev {a : E} {σ : L2.St} {H : Hp} {Q : VK} (h : rdE K pro (run W (.rev a)) σ H Q) : tRevL K (rdE K pro (run W a)) σ H Q := by
  obtain ⟨A, r, F, o, _, ok, fit, hm, q⟩ := h
  unfold run at hm
  obtain ⟨⟨oa, r1⟩, ha, hm⟩ := bindS hm
  obtain ⟨d, hd, hm⟩ := bindS hm
  obtain ⟨o3, ho, hm⟩ := bindS hm
  cases hm
  refine ⟨A, r, F, oa, _, ok, fit, ha, fun v1 F1 H1 s1 f1 k1 => ?_⟩
  obtain ⟨F1', s1', f1', h1⟩ := f1.hold k1
  have g1 := Held.seen f1' h1 hd
  unfold semRev at ho
  split at ho
  · cases ho
    obtain ⟨l, xs, rfl, hx, lx, rx⟩ := g1
    refine ⟨l, xs, rfl, by rw [← ok.k]; exact hx, fun p hp => ?_⟩
    obtain ⟨F3, s3, f3, k3⟩ := f1'.made (NewOk.lst f1'.sub hp (by rw [List.length_reverse]; exact lx) (DenL.rev rx))
    exact q _ F3 _ ((s1.trans s1').trans s3) f3 k3
  · cases ho
/-- displays -/
theorem imp_tup {es : Es} {σ : L2.St} {H : Hp} {Q : VK} (hl : ∀ r ds r', runL W es r = some (ds, r') → ds.length ≤ sizeLine) (h : rdE K pro (run W (.tup es)) σ H Q) : tTup (rdL K pro (runL W es)) σ H Q := by
  obtain ⟨A, r, F, o, _, ok, fit, hm, q⟩ := h
  unfold run at hm
  obtain ⟨⟨ds, r1⟩, ha, hm⟩ := bindS hm
  cases hm
  refine ⟨A, r, F, ds, _, ok, fit, ha, fun vs F1 H1 s1 f1 k1 => ?_⟩
  have l1 := hl _ _ _ ha
  have l2 : vs.length ≤ sizeLine := by rw [← DenL.length k1]; exact l1
  refine ⟨l2, fun p hp => ?_⟩
  obtain ⟨F3, s3, f3, k3⟩ := f1.made (NewOk.tup f1.sub hp l2 k1)
  exact q _ F3 _ (s1.trans s3) f3 k3
theorem imp_lst {es : Es} {σ : L2.St} {H : Hp} {Q : VK} (hl : ∀ r ds r', runL W es r = some (ds, r') → ds.length ≤ sizeLine) (h : rdE K pro (run W (.lst es)) σ H Q) : tLst (rdL K pro (runL W es)) σ H Q := by
  obtain ⟨A, r, F, o, _, ok, fit, hm, q⟩ := h
  unfold run at hm
  obtain ⟨⟨ds, r1⟩, ha, hm⟩ := bindS hm
  cases hm
  refine ⟨A, r, F, ds, _, ok, fit, ha, fun vs F1 H1 s1 f1 k1 => ?_⟩
  have l1 := hl _ _ _ ha
  have l2 : vs.length ≤ sizeLine := by rw [← DenL.length k1]; exact l1
  refine ⟨l2, fun p hp => ?_⟩
  obtain ⟨F3, s3, f3, k3⟩ := f1.made (NewOk.lst f1.sub hp l2 k1)
  exact q _ F3 _ (s1.trans s3) f3 k3
theorem imp_nil {σ : L2.St} {H : Hp} {Q : List V → Hp → Prop} (h : rdL K pro (runL W .nil) σ H Q) : tNil σ H Q := by
  obtain ⟨A, r, F, ds, _, ok, fit, hm, q⟩ := h
  unfold runL at hm
  cases hm
  exact q [] F H (Same.refl F) fit rfl
theorem imp_cons {e : E} {es : Es} {σ : L2.St} {H : Hp} {Q : List V → Hp → Prop} (h : rdL K pro (runL W (.cons e es)) σ H Q) : tCons (rdE K pro (run W e)) (rdL K pro (runL W es)) σ H Q := by
  obtain ⟨A, r, F, ds, _, ok, fit, hm, q⟩ := h
  unfold runL at hm
  obtain ⟨⟨oa, r1⟩, ha, hm⟩ := bindS hm
  obtain ⟨⟨d, r2⟩, hd, hm⟩ := bindS hm
  obtain ⟨⟨ds', r3⟩, he, hm⟩ := bindS hm
  cases hm
  refine ⟨A, r, F, oa, _, ok, fit, ha, fun v1 F1 H1 s1 f1 k1 => ?_⟩
  obtain ⟨F1', s1', f1', h1⟩ := f1.frz k1 hd
  refine ⟨A, r2, F1', ds', _, ok, f1', he, fun vs F2 H2 s2 f2 k2 => ?_⟩
  exact q (v1 :: vs) F2 H2 ((s1.trans s1').trans s2) f2 (DenL.cons (Den.mono s2 _ h1) k2)
/-- names and constants -/
theorem imp_var {i : Nat} {σ : L2.St} {H : Hp} {Q : VK} (h : rdE K pro (run W (.var i)) σ H Q) : tVar i σ H Q := by
  obtain ⟨A, r, F, o, _, ok, fit, hm, q⟩ := h
  unfold run at hm
  obtain ⟨s, hs, hm⟩ := bindS hm
  cases hm
  obtain ⟨v, e1, _⟩ := fit.slot i s (look_some hs)
  exact ⟨v, e1, q v F H (Same.refl F) fit e1⟩
theorem imp_c {m : Rho → Option (Out × Rho)} {d : Dat} {v : V} {σ : L2.St} {H : Hp} {Q : VK} (hm : ∀ r, m r = some (.val d, r)) (hd : ∀ K F, Den K F d v) (h : rdE K pro m σ H Q) : tC v σ H Q := by
  obtain ⟨A, r, F, o, _, ok, fit, h1, q⟩ := h
  rw [hm] at h1
  cases h1
  exact q v F H (Same.refl F) fit (hd _ _)
/-- truth -/
theorem Seen.tru {F H : Hp} (sm : Same F H) {d : Dat} {x : V} {t : Bool} (h : Seen K F H d x) (e : truthD d = some t) : TruV K x H t := by
  cases d with
  | non => rw [show x = _ from h]; cases e; exact rfl
  | bl b => rw [show x = _ from h]; cases e; exact rfl
  | int i => rw [show x = _ from h]; cases e; exact rfl
  | str z => rw [h.1]; cases e; exact ⟨h.2, rfl⟩
  | tup ds =>
    obtain ⟨a, ys, rfl, hx, lx, r'⟩ := h
    cases e
    exact .inr (.inl ⟨ys, Same.seqT sm hx, (DenL.empty r').symm⟩)
  | lst ds =>
    obtain ⟨a, ys, rfl, hx, lx, r'⟩ := h
    cases e
    exact .inl ⟨ys, hx, (DenL.empty r').symm⟩
  | dct ks vs => cases e
  | fn c ds => cases e
theorem imp_tval {e : E} {σ : L2.St} {H : Hp} {Q : Bool → Hp → Prop} (h : rdT K pro (runT W (.val e)) σ H Q) : rdE K pro (run W e) σ H fun x H' => ∃ k, TruV K x H' k ∧ Q k H' := by
  obtain ⟨A, r, F, b, _, ok, fit, hm, q⟩ := h
  unfold runT at hm
  obtain ⟨⟨oa, r1⟩, ha, hm⟩ := bindS hm
  obtain ⟨d, hd, hm⟩ := bindS hm
  obtain ⟨t, ht, hm⟩ := bindS hm
  cases hm
  refine ⟨A, r, F, oa, _, ok, fit, ha, fun v1 F1 H1 s1 f1 k1 => ?_⟩
  obtain ⟨F1', s1', f1', h1⟩ := f1.hold k1
  have g1 := Held.seen f1' h1 hd
  rw [ok.k] at g1
  exact ⟨_, Seen.tru f1'.sub g1 ht, q F1' H1 (s1.trans s1') f1'⟩
theorem imp_tcmp {k : K2} {a b : E} {σ : L2.St} {H : Hp} {Q : Bool → Hp → Prop} (h : rdT K pro (runT W (.cmp k a b)) σ H Q) :
    tTest (tOp (rD2 K (sem2 k)) (rdE K pro (run W a)) (rdE K pro (run W b))) σ H Q := by
  obtain ⟨A, r, F, t, _, ok, fit, hm, q⟩ := h
  unfold runT at hm
  obtain ⟨⟨oa, r1⟩, ha, hm⟩ := bindS hm
  obtain ⟨⟨ob, r2⟩, hb, hm⟩ := bindS hm
  obtain ⟨d, hd, hm⟩ := bindS hm
  obtain ⟨e, he, hm⟩ := bindS hm
  try dsimp only at hm
  split at hm
  · rename_i t' ho
    cases hm
    refine ⟨A, r, F, oa, _, ok, fit, ha, fun v1 F1 H1 s1 f1 k1 => ?_⟩
    obtain ⟨F1', s1', f1', h1⟩ := f1.hold k1
    refine ⟨A, r1, F1', ob, _, ok, f1', hb, fun v2 F2 H2 s2 f2 k2 => ?_⟩
    obtain ⟨F2', s2', f2', h2⟩ := f2.hold k2
    have g1 := Held.seen f2' (h1.mono (s2.trans s2')) hd
    have g2 := Held.seen f2' h2 he
    rw [ok.k] at g1 g2
    refine ⟨F2', d, e, _, f2'.sub, g1, g2, ho, fun v H' nw => ?_⟩
    rw [← ok.k] at nw
    obtain ⟨F3, s3, f3, k3⟩ := f2'.made nw
    exact ⟨t, k3, q F3 H' (((s1.trans s1').trans (s2.trans s2')).trans s3) f3⟩
  · cases hm
theorem imp_tnot {t : T} {σ : L2.St} {H : Hp} {Q : Bool → Hp → Prop} (h : rdT K pro (runT W (.not t)) σ H Q) : tNot (rdT K pro (runT W t)) σ H Q := by
  obtain ⟨A, r, F, b, _, ok, fit, hm, q⟩ := h
  unfold runT at hm
  obtain ⟨⟨c, r1⟩, ha, hm⟩ := bindS hm
  cases hm
  exact ⟨A, r, F, c, _, ok, fit, ha, q⟩
theorem imp_tand {t u : T} {σ : L2.St} {H : Hp} {Q : Bool → Hp → Prop} (h : rdT K pro (runT W (.and t u)) σ H Q) : tAnd (rdT K pro (runT W t)) (rdT K pro (runT W u)) σ H Q := by
  obtain ⟨A, r, F, b, _, ok, fit, hm, q⟩ := h
  unfold runT at hm
  obtain ⟨⟨c, r1⟩, ha, hm⟩ := bindS hm
  dsimp only at hm
  refine ⟨A, r, F, c, _, ok, fit, ha, fun F1 H1 s1 f1 => ?_⟩
  split at hm
  · rename_i hc
    rw [if_pos hc]
    exact ⟨A, r1, F1, b, _, ok, f1, hm, fun F2 H2 s2 f2 => q F2 H2 (s1.trans s2) f2⟩
  · rename_i hc
    rw [if_neg hc]
    cases hm
    exact q F1 H1 s1 f1
theorem imp_tor {t u : T} {σ : L2.St} {H : Hp} {Q : Bool → Hp → Prop} (h : rdT K pro (runT W (.or t u)) σ H Q) : tOr (rdT K pro (runT W t)) (rdT K pro (runT W u)) σ H Q := by
  obtain ⟨A, r, F, b, _, ok, fit, hm, q⟩ := h
  unfold runT at hm
  obtain ⟨⟨c, r1⟩, ha, hm⟩ := bindS hm
  dsimp only at hm
  refine ⟨A, r, F, c, _, ok, fit, ha, fun F1 H1 s1 f1 => ?_⟩
  split at hm
  · rename_i hc
    rw [if_pos hc]
    cases hm
    exact q F1 H1 s1 f1
  · rename_i hc
    rw [if_neg hc]
    exact ⟨A, r1, F1, b, _, ok, f1, hm, fun F2 H2 s2 f2 => q F2 H2 (s1.trans s2) f2⟩
theorem imp_and {a b : E} {σ : L2.St} {H : Hp} {Q : VK} (h : rdE K pro (run W (.and a b)) σ H Q) : tAndT K (rdE K pro (run W a)) (rdE K pro (run W b)) σ H Q := by
  obtain ⟨A, r, F, o, _, ok, fit, hm, q⟩ := h
  unfold run at hm
  obtain ⟨⟨oa, r1⟩, ha, hm⟩ := bindS hm
  obtain ⟨⟨d, r2⟩, hd, hm⟩ := bindS hm
  obtain ⟨t, ht, hm⟩ := bindS hm
  try dsimp only at hm
  refine ⟨A, r, F, oa, _, ok, fit, ha, fun v1 F1 H1 s1 f1 k1 => ?_⟩
  obtain ⟨F1', s1', f1', h1⟩ := f1.frz k1 hd
  have g1 := Seen.of f1'.sub h1
  rw [ok.k] at g1
  refine ⟨t, Seen.tru f1'.sub g1 ht, ?_⟩
  split at hm
  · rename_i hc
    rw [if_pos hc]
    exact ⟨A, r2, F1', o, _, ok, f1', hm, fun v F2 H2 s2 f2 k2 => q v F2 H2 ((s1.trans s1').trans s2) f2 k2⟩
  · rename_i hc
    rw [if_neg hc]
    cases hm
    exact q v1 F1' H1 (s1.trans s1') f1' h1
theorem imp_or {a b : E} {σ : L2.St} {H : Hp} {Q : VK} (h : rdE K pro (run W (.or a b)) σ H Q) : tOrT K (rdE K pro (run W a)) (rdE K pro (run W b)) σ H Q := by
  obtain ⟨A, r, F, o, _, ok, fit, hm, q⟩ := h
  unfold run at hm
  obtain ⟨⟨oa, r1⟩, ha, hm⟩ := bindS hm
  obtain ⟨⟨d, r2⟩, hd, hm⟩ := bindS hm
  obtain ⟨t, ht, hm⟩ := bindS hm
  try dsimp only at hm
  refine ⟨A, r, F, oa, _, ok, fit, ha, fun v1 F1 H1 s1 f1 k1 => ?_⟩
  obtain ⟨F1', s1', f1', h1⟩ := f1.frz k1 hd
  have g1 := Seen.of f1'.sub h1
  rw [ok.k] at g1
  refine ⟨t, Seen.tru f1'.sub g1 ht, ?_⟩
  split at hm
  · rename_i hc
    rw [if_pos hc]
    cases hm
    exact q v1 F1' H1 (s1.trans s1') f1' h1
  · rename_i hc
    rw [if_neg hc]
    exact ⟨A, r2, F1', o, _, ok, f1', hm, fun v F2 H2 s2 f2 k2 => q v F2 H2 ((s1.trans s1').trans s2) f2 k2⟩
theorem imp_not {a : E} {σ : L2.St} {H : Hp} {Q : VK} (h : rdE K pro (run W (.not a)) σ H Q) : tNotT K (rdE K pro (run W a)) σ H Q := by
  obtain ⟨A, r, F, o, _, ok, fit, hm, q⟩ := h
  unfold run at hm
  obtain ⟨⟨oa, r1⟩, ha, hm⟩ := bindS hm
  obtain ⟨d, hd, hm⟩ := bindS hm
  obtain ⟨t, ht, hm⟩ := bindS hm
  cases hm
  refine ⟨A, r, F, oa, _, ok, fit, ha, fun v1 F1 H1 s1 f1 k1 => ?_⟩
  obtain ⟨F1', s1', f1', h1⟩ := f1.hold k1
  have g1 := Held.seen f1' h1 hd
  rw [ok.k] at g1
  exact ⟨t, Seen.tru f1'.sub g1 ht, q _ F1' H1 (s1.trans s1') f1' rfl⟩
theorem imp_ite {t : T} {a b : E} {σ : L2.St} {H : Hp} {Q : VK} (h : rdE K pro (run W (.ite t a b)) σ H Q) : tIf (rdT K pro (runT W t)) (rdE K pro (run W a)) (rdE K pro (run W b)) σ H Q := by
  obtain ⟨A, r, F, o, _, ok, fit, hm, q⟩ := h
  unfold run at hm
  obtain ⟨⟨c, r1⟩, ha, hm⟩ := bindS hm
  dsimp only at hm
  refine ⟨A, r, F, c, _, ok, fit, ha, fun F1 H1 s1 f1 => ?_⟩
  split at hm
  · rename_i hc
    rw [if_pos hc]
    exact ⟨A, r1, F1, o, _, ok, f1, hm, fun v F2 H2 s2 f2 k2 => q v F2 H2 (s1.trans s2) f2 k2⟩
  · rename_i hc
    rw [if_neg hc]
    exact ⟨A, r1, F1, o, _, ok, f1, hm, fun v F2 H2 s2 f2 k2 => q v F2 H2 (s1.trans s2) f2 k2⟩
end
end Dl

/-! D5: calls, lists that change, walks, comprehensions, statements. -/
namespace Dl
open PySem PySem.Spec PyProof.Rows L2

/-! ### the promise of a def -/
def IoA (io : Option Nat) (vs : List V) (b : Addr) : Prop := ∃ i : Nat, io = some i ∧ vs[i]? = some (.ref b)
def ResOk (K : Kw) (H F' H' : Hp) : Out → V → Prop
  | .val x, v => Den K F' x v
  | .fresh x, v => ∃ a, v = .ref a ∧ F' a = none ∧ H a = none ∧ Own K F' H' a x
  | .place _, _ => False
structure ArgsOk (K : Kw) (io : Option Nat) (np : Nat) (F H : Hp) (ds : List Dat) (vs : List V) : Prop where
  sub : Same F H
  lv : vs.length = np
  ld : ds.length = np
  fz : ∀ (i : Nat) (d : Dat) (v : V), ds[i]? = some d → vs[i]? = some v → io ≠ some i → Den K F d v
  lent : ∀ (i : Nat) (d : Dat) (v : V), ds[i]? = some d → vs[i]? = some v → io = some i → ∃ a, v = .ref a ∧ F a = none ∧ Own K F H a d
structure PostOk (K : Kw) (io : Option Nat) (F H : Hp) (vs : List V) (o : Out) (d : Dat) (v : V) (F' H' : Hp) : Prop where
  ff : Same F F'
  fh : Same F' H'
  keep : ∀ b u, H b = some u → ¬ IoA io vs b → H' b = some u
  newf : ∀ b u, F' b = some u → F b = some u ∨ H b = none
  lent : ∀ b, IoA io vs b → F' b = none ∧ Own K F' H' b d
  res : ResOk K H F' H' o v
def spD (K : Kw) (io : Option Nat) (np : Nat) (phi : List Dat → Option (Out × Dat)) : Sp := fun vs H Q _ =>
  ∃ F ds o d, phi ds = some (o, d) ∧ ArgsOk K io np F H ds vs ∧ ∀ v F' H', PostOk K io F H vs o d v F' H' → Q v H'

section
variable {K : Kw} {pro : List Nat} {W : Wd}
/-! ### arguments -/
theorem imp_anil {k : Option Nat} {σ : L2.St} {H : Hp} {Q : List V → Hp → Prop} (h : rdA K pro (runA W .nil k) σ H Q) : tNil σ H Q := by
  obtain ⟨A, r, F, os, r', ok, fit, hm, q⟩ := h
  unfold runA at hm
  cases hm
  exact q [] F H (Same.refl F) fit rfl
theorem vals_of_none : ∀ (es : Es) (r : Rho) (os : List Out) (r' : Rho), runA W es none r = some (os, r') → ∀ o ∈ os, ∃ d, o = .val d
  | .nil, r, os, r', h, o, ho => by
    unfold runA at h
    cases h
    cases ho
  | .cons e es, r, os, r', h, o, ho => by
    unfold runA at h
    obtain ⟨⟨oa, r1⟩, ha, h⟩ := bindS h
    obtain ⟨⟨d, r2⟩, hd, h⟩ := bindS h
    obtain ⟨⟨os', r3⟩, he, h⟩ := bindS h
    cases h
    rcases List.mem_cons.mp ho with rfl | ho
    · exact ⟨d, rfl⟩
    · exact vals_of_none es r2 os' _ he o ho
theorem OutsOk.unguard {A : Fr} {a : Addr} {u : HO} {r : Rho} {F : Hp} {σ : L2.St} {H : Hp} : ∀ {os : List Out} {vs : List V}, (∀ o ∈ os, ∃ d, o = .val d) → OutsOk (A.guard a u) r F σ H os vs → OutsOk A r F σ H os vs
  | [], _, _, h => h
  | o :: os, _, hv, ⟨v, ws, e, h1, h2⟩ => by
    obtain ⟨d, rfl⟩ := hv o List.mem_cons_self
    exact ⟨v, ws, e, h1, OutsOk.unguard (fun o ho => hv o (List.mem_cons_of_mem _ ho)) h2⟩
theorem imp_acons_fz {e : E} {es : Es} {k : Option Nat} {k' : Option Nat} {σ : L2.St} {H : Hp} {Q : List V → Hp → Prop} (hk : (k = none ∧ k' = none) ∨ ∃ j, k = some (j + 1) ∧ k' = some j) (h : rdA K pro (runA W (.cons e es) k) σ H Q) :
    tCons (rdE K pro (run W e)) (rdA K pro (runA W es k')) σ H Q := by
  obtain ⟨A, r, F, os, r', ok, fit, hm, q⟩ := h
  have hm2 : ((run W e r).bind fun x => (frz x.2 x.1).bind fun y => (runA W es k' y.2).bind fun z => some (Out.val y.1 :: z.1, z.2)) = some (os, r') := by
    rcases hk with ⟨rfl, rfl⟩ | ⟨j, rfl, rfl⟩
    · unfold runA at hm
      exact hm
    · unfold runA at hm
      exact hm
  obtain ⟨⟨oa, r1⟩, ha, hm2⟩ := bindS hm2
  obtain ⟨⟨d, r2⟩, hd, hm2⟩ := bindS hm2
  obtain ⟨⟨os', r3⟩, he, hm2⟩ := bindS hm2
  cases hm2
  refine ⟨A, r, F, oa, r1, ok, fit, ha, fun v1 F1 H1 s1 f1 k1 => ?_⟩
  obtain ⟨F1', s1', f1', h1⟩ := f1.frz k1 hd
  refine ⟨A, r2, F1', os', _, ok, f1', he, fun vs F2 H2 s2 f2 k2 => ?_⟩
  exact q (v1 :: vs) F2 H2 ((s1.trans s1').trans s2) f2 ⟨v1, vs, rfl, Den.mono s2 _ h1, k2⟩
theorem imp_acons_io {e : E} {es : Es} {σ : L2.St} {H : Hp} {Q : List V → Hp → Prop} (h : rdA K pro (runA W (.cons e es) (some 0)) σ H Q) :
    tCons (rdE K pro (run W e)) (rdA K pro (runA W es none)) σ H Q := by
  obtain ⟨A, r, F, os, r', ok, fit, hm, q⟩ := h
  unfold runA at hm
  obtain ⟨⟨oa, r1⟩, ha, hm⟩ := bindS hm
  obtain ⟨ol, hl, hm⟩ := bindS hm
  obtain ⟨⟨os', r3⟩, he, hm⟩ := bindS hm
  cases hm
  refine ⟨A, r, F, oa, r1, ok, fit, ha, fun v1 F1 H1 s1 f1 k1 => ?_⟩
  cases oa with
  | val d => cases hl
  | fresh d =>
    cases hl
    obtain ⟨a, rfl, g1, g2, g3, g4, g5⟩ := k1
    obtain ⟨u, hu⟩ := Own.there g4
    have gf := f1.guard (o := u) hu g1 g3 g5
    refine ⟨A.guard a u, r1, F1, os', _, ok.guard a u, gf, he, fun vs F2 H2 s2 f2 k2 => ?_⟩
    obtain ⟨f2', u1, u2, u3⟩ := f2.unguard g2 (f1.f0.free g1) g3
    refine q (.ref a :: vs) F2 H2 (s1.trans s2) f2' ⟨_, vs, rfl, ⟨a, rfl, u2, g2, g3, Own.stay s2 (fun o ho => ?_) g4, u3⟩, OutsOk.unguard (vals_of_none es r1 os' _ he) k2⟩
    rw [hu] at ho
    cases ho
    exact u1
  | place i =>
    have el : ol = .place i := by
      have hl : (match look r1 i with
        | some ⟨_, .fz⟩ => none
        | some _ => some (Out.place i)
        | none => none) = some ol := hl
      split at hl
      · cases hl
      · cases hl; rfl
      · cases hl
    subst el
    refine ⟨A, r1, F1, os', _, ok, f1, he, fun vs F2 H2 s2 f2 k2 => ?_⟩
    exact q (v1 :: vs) F2 H2 (s1.trans s2) f2 ⟨v1, vs, rfl, k1, k2⟩
theorem OutsOk.get {A : Fr} {r : Rho} {F : Hp} {σ : L2.St} {H : Hp} : ∀ {os : List Out} {vs : List V} {i : Nat} {v : V}, OutsOk A r F σ H os vs → vs[i]? = some v → ∃ o, os[i]? = some o ∧ OutOk A r F σ H o v
  | [], _, i, v, h, e => by
    have h : _ = [] := h
    subst h
    cases e
  | o :: os, _, 0, v, ⟨w, ws, e, h1, h2⟩, g => by
    subst e
    cases g
    exact ⟨o, rfl, h1⟩
  | o :: os, _, i + 1, v, ⟨w, ws, e, h1, h2⟩, g => by
    subst e
    exact OutsOk.get (i := i) h2 g
theorem OutsOk.len {A : Fr} {r : Rho} {F : Hp} {σ : L2.St} {H : Hp} : ∀ {os : List Out} {vs : List V}, OutsOk A r F σ H os vs → os.length = vs.length
  | [], _, h => by
    have h : _ = [] := h
    subst h
    rfl
  | o :: os, _, ⟨w, ws, e, h1, h2⟩ => by
    subst e
    rw [List.length_cons, List.length_cons, OutsOk.len h2]
theorem resAll_get {r : Rho} : ∀ {os : List Out} {ds : List Dat} {i : Nat} {d : Dat}, resAll r os = some ds → ds[i]? = some d → ∃ o, os[i]? = some o ∧ res r o = some d
  | [], ds, i, d, h, e => by cases h; cases e
  | o :: os, ds, i, d, h, e => by
    unfold resAll at h
    obtain ⟨x, hx, h⟩ := bindS h
    obtain ⟨xs, hxs, h⟩ := bindS h
    cases h
    cases i with
    | zero => cases e; exact ⟨o, rfl, hx⟩
    | succ i => exact resAll_get (i := i) hxs e
theorem resAll_len {r : Rho} : ∀ {os : List Out} {ds : List Dat}, resAll r os = some ds → ds.length = os.length
  | [], ds, h => by cases h; rfl
  | o :: os, ds, h => by
    unfold resAll at h
    obtain ⟨x, hx, h⟩ := bindS h
    obtain ⟨xs, hxs, h⟩ := bindS h
    cases h
    rw [List.length_cons, List.length_cons, resAll_len hxs]
/-- which arguments are lent -/
theorem runA_kind : ∀ (es : Es) (k : Option Nat) (r : Rho) (os : List Out) (r' : Rho), runA W es k r = some (os, r') → ∀ (i : Nat) (o : Out), os[i]? = some o → k ≠ some i → ∃ d, o = .val d
  | .nil, k, r, os, r', h, i, o, ho, hk => by
    unfold runA at h
    cases h
    cases ho
  | .cons e es, none, r, os, r', h, i, o, ho, hk => vals_of_none _ r os r' h o (List.mem_of_getElem? ho)
  | .cons e es, some 0, r, os, r', h, i, o, ho, hk => by
    unfold runA at h
    obtain ⟨⟨oa, r1⟩, ha, h⟩ := bindS h
    obtain ⟨ol, hl, h⟩ := bindS h
    obtain ⟨⟨os', r3⟩, he, h⟩ := bindS h
    cases h
    cases i with
    | zero => exact absurd rfl hk
    | succ i => exact vals_of_none es r1 os' _ he o (List.mem_of_getElem? (i := i) ho)
  | .cons e es, some (k + 1), r, os, r', h, i, o, ho, hk => by
    unfold runA at h
    obtain ⟨⟨oa, r1⟩, ha, h⟩ := bindS h
    obtain ⟨⟨d, r2⟩, hd, h⟩ := bindS h
    obtain ⟨⟨os', r3⟩, he, h⟩ := bindS h
    cases h
    cases i with
    | zero => cases ho; exact ⟨d, rfl⟩
    | succ i => exact runA_kind es (some k) r2 os' _ he i o ho fun z => hk (by cases z; rfl)

/-- one object, that no slot owns, has changed; others are new -/
theorem Fit.changed {A : Fr} {r : Rho} {F F' H H' : Hp} {σ : L2.St} (h : Fit A r F σ H) {a : Addr} (ff : Same F F') (fh : Same F' H') (keep : ∀ b u, H b = some u → b ≠ a → H' b = some u)
    (newf : ∀ b u, F' b = some u → F b = some u ∨ H b = none) (ha : ∃ o, H' a = some o) (hex : A.H0 a = none ∨ A.io a) (nm : ¬ Mine r σ a) : Fit A r F' σ H' := by
  refine ⟨fh, fun b o e x => keep b o (h.keep b o e x) fun z => ?_, fun b o e => ?_, h.f0.trans ff, fun b x => ?_, fun i s e => ?_, h.sep, h.pro, h.len⟩
  · subst z
    rcases hex with z | z
    · rw [e] at z; cases z
    · exact x z
  · rcases newf b o e with z | z
    · exact h.newf b o z
    · exact .inr (h.free z).1
  · by_cases hb : b = a
    · subst hb
      exact ha
    · obtain ⟨o, q⟩ := h.ioh b x
      exact ⟨o, keep b o q hb⟩
  · obtain ⟨v, e2, q⟩ := h.slot i s e
    refine ⟨v, e2, q.stay ff (fun b eb em fb => ?_) fun b eb em o ho => keep b o ho fun z => nm ⟨i, s, e, em, by rw [e2, eb, z]⟩⟩
    subst eb
    obtain ⟨o, ho⟩ := Own.there (q.mine em).2.2
    cases qf : F' b with
    | none => rfl
    | some u =>
      rcases newf b u qf with z | z
      · rw [fb] at z; cases z
      · rw [ho] at z; cases z
/-- a slot is known again -/
theorem Fit.regain {A : Fr} {r : Rho} {F H : Hp} {σ : L2.St} {j : Nat} {s : Sl} {v : V} (h : Fit A (r.set j none) F σ H) (ev : σ[j]? = some (some v)) (q : SlotOk A F H s v) (nm : s.m ≠ .fz → ∀ a, v = .ref a → ¬ Mine (r.set j none) σ a) : Fit A (r.set j (some s)) F σ H := by
  have get : ∀ {i : Nat} {t : Sl}, (r.set j (some s))[i]? = some (some t) → (i = j ∧ t = s) ∨ (i ≠ j ∧ (r.set j none)[i]? = some (some t)) := fun {i t} e => by
    rcases set_get e with ⟨rfl, z⟩ | ⟨n, z⟩
    · exact .inl ⟨rfl, (Option.some.inj z).symm⟩
    · exact .inr ⟨n, by rw [List.getElem?_set_ne (Ne.symm n)]; exact z⟩
  refine ⟨h.sub, h.keep, h.newf, h.f0, h.ioh, fun i t e => ?_, fun i k t u b n e1 m1 e2 m2 s1 s2 => ?_, h.pro, by have := h.len; rw [List.length_set] at this ⊢; exact this⟩
  · rcases get e with ⟨rfl, rfl⟩ | ⟨n, z⟩
    · exact ⟨v, ev, q⟩
    · exact h.slot i t z
  · rcases get e1 with ⟨rfl, rfl⟩ | ⟨n1, z1⟩
    · rcases get e2 with ⟨rfl, _⟩ | ⟨n2, z2⟩
      · exact n rfl
      · rw [ev] at s1
        exact nm m1 b (Option.some.inj (Option.some.inj s1)) ⟨k, u, z2, m2, s2⟩
    · rcases get e2 with ⟨rfl, rfl⟩ | ⟨n2, z2⟩
      · rw [ev] at s2
        exact nm m2 b (Option.some.inj (Option.some.inj s2)) ⟨i, t, z1, m1, s1⟩
      · exact h.sep i k t u b n z1 m1 z2 m2 s1 s2
theorem Fit.alone {A : Fr} {r : Rho} {F H : Hp} {σ : L2.St} (h : Fit A r F σ H) {j : Nat} {s : Sl} {a : Addr} (e : r[j]? = some (some s)) (em : s.m ≠ .fz) (ev : σ[j]? = some (some (.ref a))) : ¬ Mine (r.set j none) σ a := fun m => by
  obtain ⟨i, t, e1, m1, e3⟩ := m
  rcases set_get e1 with ⟨_, z⟩ | ⟨n, z⟩
  · cases z
  · exact h.sep i j t s a n z m1 e em e3 ev
/-- what comes back from a call -/
theorem back_res {A : Fr} {r r' : Rho} {F H F' H' : Hp} {σ : L2.St} {o : Out} {v : V} (h : Fit A r F σ H) (q : ResOk A.K H F' H' o v) (sub : ∀ a, Mine r' σ a → Mine r σ a) : OutOk A r' F' σ H' o v := by
  cases o with
  | val x => exact q
  | fresh x =>
    obtain ⟨a, e1, e2, e3, e4⟩ := q
    refine ⟨a, e1, e2, (h.free e3).1, (h.free e3).2, e4, fun m => ?_⟩
    obtain ⟨_, _, u, z⟩ := h.mine (sub a m)
    rw [e3] at z
    cases z
  | place i => exact q.elim

/-- a call of a def -/
theorem imp_call {f : Str} {es : Es} {io : Option Nat} {np : Nat} {σ : L2.St} {H : Hp} {Q : VK} (hio : W.io f = some io) (hnp : ∀ ds x, W.phi f ds = some x → ds.length = np)
    (h : rdE K pro (run W (.call f es)) σ H Q) : tCall (spD K io np (W.phi f)) [] E0 (rdA K pro (runA W es io)) σ H Q := by
  obtain ⟨A, r, F, o, r', ok, fit, hm, q⟩ := h
  unfold run at hm
  obtain ⟨io', hi, hm⟩ := bindS hm
  rw [hio] at hi
  cases hi
  obtain ⟨⟨os, r1⟩, ha, hm⟩ := bindS hm
  obtain ⟨ds, hd, hm⟩ := bindS hm
  obtain ⟨⟨o2, d⟩, hp, hm⟩ := bindS hm
  obtain ⟨r2, hg, hm⟩ := bindS hm
  cases hm
  refine ⟨A, r, F, os, r1, ok, fit, ha, fun vs F1 H1 s1 f1 k1 => ?_⟩
  show spD K io np (W.phi f) (vs ++ []) H1 Q E0
  rw [List.append_nil, ← ok.k]
  have hl := hnp ds _ hp
  have lo : os.length = vs.length := OutsOk.len k1
  have ld : ds.length = os.length := resAll_len hd
  have settled : ∀ (i : Nat) (x : Dat) (v : V), ds[i]? = some x → vs[i]? = some v → io ≠ some i → Den A.K F1 x v := fun i x v hx hv hi => by
    obtain ⟨oi, h1, h2⟩ := OutsOk.get k1 hv
    obtain ⟨oi', h3, h4⟩ := resAll_get hd hx
    rw [h1] at h3
    cases h3
    obtain ⟨y, rfl⟩ := runA_kind es io r os r1 ha i oi h1 hi
    cases h4
    exact h2
  cases io with
  | none =>
    refine ⟨F1, ds, o, d, hp, ⟨f1.sub, by omega, hl, settled, fun _ _ _ _ _ z => nomatch z⟩, fun v F' H' po => ?_⟩
    cases hg
    have nio : ∀ b, ¬ IoA none vs b := fun b z => by obtain ⟨i, e, _⟩ := z; cases e
    have nw : New A.K F1 H1 F' H' := ⟨po.ff, po.fh, fun b u e => po.keep b u e (nio b), po.newf⟩
    exact q v F' H' (s1.trans po.ff) (f1.grow nw) (back_res f1 po.res fun _ m => m)
  | some k =>
    have hg : (match os[k]? with
      | some (.place i) => match look r1 i with
        | some ⟨_, .own⟩ => some (r1.set i (some ⟨d, .own⟩))
        | some ⟨_, .io⟩ => some (r1.set i (some ⟨d, .io⟩))
        | _ => none
      | some (.fresh _) => some r1
      | _ => none) = some r' := hg
    -- the lent one
    have key : ∃ (a : Addr) (x : Dat), vs[k]? = some (.ref a) ∧ ds[k]? = some x ∧ F1 a = none ∧ Own A.K F1 H1 a x ∧
        ∀ v F' H', PostOk A.K (some k) F1 H1 vs o d v F' H' → Fit A r' F' σ H' ∧ (∀ b, Mine r' σ b → Mine r1 σ b) := by
      cases hok : os[k]? with
      | none => rw [hok] at hg; cases hg
      | some ok' =>
        rw [hok] at hg
        have hk : k < os.length := (List.getElem?_eq_some_iff.mp hok).1
        have hkv : k < vs.length := by omega
        have hkd : k < ds.length := by omega
        obtain ⟨oi, g1, g2⟩ := OutsOk.get k1 (List.getElem?_eq_getElem hkv)
        obtain ⟨oi', g3, g4⟩ := resAll_get hd (List.getElem?_eq_getElem hkd)
        rw [hok] at g1 g3
        cases g1
        cases g3
        cases ok' with
        | val x => cases hg
        | fresh x =>
          cases hg
          obtain ⟨a, e1, e2, e3, e4, e5, e6⟩ := g2
          have hx : x = ds[k] := Option.some.inj g4
          subst hx
          refine ⟨a, _, by rw [List.getElem?_eq_getElem hkv, e1], List.getElem?_eq_getElem hkd, e2, e5, fun v F' H' po => ⟨?_, fun _ m => m⟩⟩
          have ia : IoA (some k) vs a := ⟨k, rfl, by rw [List.getElem?_eq_getElem hkv, e1]⟩
          refine f1.changed po.ff po.fh (fun b u hb nb => po.keep b u hb fun z => ?_) po.newf (Own.there (po.lent a ia).2) (.inl e3) e6
          obtain ⟨i, ei, z⟩ := z
          cases ei
          rw [List.getElem?_eq_getElem hkv, e1] at z
          cases z
          exact nb rfl
        | place j =>
          have g4 : (look r1 j).map (·.d) = some ds[k] := g4
          cases hj : look r1 j with
          | none => rw [hj] at g4; cases g4
          | some s =>
            rw [hj] at g4
            have hsd : s.d = ds[k] := Option.some.inj g4
            have hjs := look_some hj
            have hg2 : s.m ≠ .fz ∧ r' = r1.set j (some ⟨d, s.m⟩) := by
              obtain ⟨sd, sm⟩ := s
              dsimp only at hg
              rw [hj] at hg
              cases sm with
              | fz => cases hg
              | own => cases hg; exact ⟨(fun z => nomatch z), rfl⟩
              | io => cases hg; exact ⟨(fun z => nomatch z), rfl⟩
            obtain ⟨hz, rfl⟩ := hg2
            obtain ⟨w, w1, w2⟩ := f1.slot j s hjs
            rw [show σ[j]? = some (some vs[k]) from g2] at w1
            cases w1
            obtain ⟨a, ea⟩ := w2.ref hz
            have g2 : σ[j]? = some (some vs[k]) := g2
            rw [ea] at w2 g2
            obtain ⟨m1, m2, m3⟩ := w2.mine hz
            have ia : IoA (some k) vs a := ⟨k, rfl, by rw [List.getElem?_eq_getElem hkv, ea]⟩
            refine ⟨a, ds[k], by rw [List.getElem?_eq_getElem hkv, ea], List.getElem?_eq_getElem hkd, m1, by rw [← hsd]; exact m3, fun v F' H' po => ⟨?_, fun b mb => ?_⟩⟩
            · have al := f1.alone hjs hz g2
              have fg := (f1.forget j).changed (a := a) po.ff po.fh (fun b u hb nb => po.keep b u hb fun z => by
                obtain ⟨i, ei, z⟩ := z
                cases ei
                rw [List.getElem?_eq_getElem hkv, ea] at z
                cases z
                exact nb rfl) po.newf (Own.there (po.lent a ia).2) (m2.elim (fun z => .inl z.1) .inr) al
              refine fg.regain g2 ?_ fun _ b eb => by cases eb; exact al
              obtain ⟨l1, l2⟩ := po.lent a ia
              unfold SlotOk at w2 ⊢
              show (match s.m with | .fz => _ | .own => _ | .io => _)
              cases hsm : s.m with
              | fz => exact absurd hsm hz
              | own =>
                rw [hsm] at w2
                obtain ⟨b, eb, _, b2, b3, _⟩ := w2
                cases eb
                exact ⟨a, rfl, l1, b2, b3, l2⟩
              | io =>
                rw [hsm] at w2
                obtain ⟨b, eb, _, b2, _⟩ := w2
                cases eb
                exact ⟨a, rfl, l1, b2, l2⟩
            · obtain ⟨i, t, e1, e2, e3⟩ := mb
              rcases set_get e1 with ⟨rfl, z⟩ | ⟨n, z⟩
              · exact ⟨i, s, hjs, hz, e3⟩
              · exact ⟨i, t, z, e2, e3⟩
    obtain ⟨a, x, c1, c2, c3, c4, c5⟩ := key
    refine ⟨F1, ds, o, d, hp, ⟨f1.sub, by omega, hl, settled, fun i y v hy hv hi => ?_⟩, fun v F' H' po => ?_⟩
    · cases hi
      rw [c1] at hv
      cases hv
      rw [c2] at hy
      cases hy
      exact ⟨a, rfl, c3, c4⟩
    · obtain ⟨g1, g2⟩ := c5 v F' H' po
      exact q v F' H' (s1.trans po.ff) g1 (back_res f1 po.res g2)
/-! ### a call that only looks at what it is given, and gives something flat -/
def HeldL (K : Kw) (F : Hp) (σ : L2.St) : List Out → List V → Prop
  | [], vs => vs = []
  | o :: os, vs => ∃ v ws, vs = v :: ws ∧ Held K F σ o v ∧ HeldL K F σ os ws
def rdH (K : Kw) (pro : List Nat) (m : Rho → Option (List Out × Rho)) : TA := fun σ H Q => ∃ A r F os r', Ok K pro A ∧ Fit A r F σ H ∧ m r = some (os, r') ∧ ∀ vs F' H', Same F F' → Fit A r' F' σ H' → HeldL A.K F' σ os vs → Q vs H'
theorem imp_hnil {σ : L2.St} {H : Hp} {Q : List V → Hp → Prop} (h : rdH K pro (runP W .nil) σ H Q) : tNil σ H Q := by
  obtain ⟨A, r, F, os, r', ok, fit, hm, q⟩ := h
  unfold runP at hm
  cases hm
  exact q [] F H (Same.refl F) fit rfl
theorem imp_hcons {e : E} {es : Es} {σ : L2.St} {H : Hp} {Q : List V → Hp → Prop} (h : rdH K pro (runP W (.cons e es)) σ H Q) : tCons (rdE K pro (run W e)) (rdH K pro (runP W es)) σ H Q := by
  obtain ⟨A, r, F, os, r', ok, fit, hm, q⟩ := h
  unfold runP at hm
  obtain ⟨⟨o, r1⟩, ha, hm⟩ := bindS hm
  obtain ⟨⟨os', r2⟩, hb, hm⟩ := bindS hm
  cases hm
  refine ⟨A, r, F, o, r1, ok, fit, ha, fun v F1 H1 s1 f1 k1 => ?_⟩
  obtain ⟨F1', s1', f1', h1⟩ := f1.hold k1
  exact ⟨A, r1, F1', os', _, ok, f1', hb, fun vs F2 H2 s2 f2 k2 => q (v :: vs) F2 H2 ((s1.trans s1').trans s2) f2 ⟨v, vs, rfl, h1.mono s2, k2⟩⟩
theorem settle_o {G H : Hp} (s : Same G H) {a : Addr} {u : HO} (ha : H a = some u) : Same G (upd G a u) ∧ Same (upd G a u) H := by
  refine ⟨fun b o e => ?_, fun b o e => ?_⟩
  · by_cases hb : b = a
    · subst hb
      rw [s b o e] at ha
      cases ha
      rw [upd_same]
    · rw [upd_ne hb]
      exact e
  · by_cases hb : b = a
    · subst hb
      rw [upd_same] at e
      cases e
      exact ha
    · rw [upd_ne hb] at e
      exact s b o e
/-- what is one's own, settled for a while -/
theorem settle_in {K : Kw} {F G H : Hp} (f : Same F G) (s : Same G H) {a : Addr} {d : Dat} (h : Own K F H a d) : ∃ G', Same G G' ∧ Same G' H ∧ Den K G' d (.ref a) := by
  cases d with
  | lst ds =>
    obtain ⟨xs, e, l, q⟩ := h
    obtain ⟨s1, s2⟩ := settle_o s e
    exact ⟨_, s1, s2, a, xs, rfl, SqL.of upd_same, l, DenL.mono (f.trans s1) ds q⟩
  | dct ks vs =>
    obtain ⟨u, ws, zs, e, l, q1, q2⟩ := h
    obtain ⟨s1, s2⟩ := settle_o s e
    exact ⟨_, s1, s2, a, u, ws, zs, rfl, upd_same, l, DenL.mono (f.trans s1) ks q1, DenL.mono (f.trans s1) vs q2⟩
  | _ => exact h.elim
theorem settle_all {A : Fr} {r : Rho} {F H : Hp} {σ : L2.St} (fit : Fit A r F σ H) : ∀ {os : List Out} {vs : List V} {ds : List Dat}, HeldL A.K F σ os vs → resAll r os = some ds → ∃ G, Same F G ∧ Same G H ∧ DenL A.K G ds vs
  | [], vs, ds, h, e => by
    cases e
    exact ⟨F, Same.refl F, fit.sub, h⟩
  | o :: os, vs, ds, ⟨v, ws, e0, h1, h2⟩, e => by
    subst e0
    unfold resAll at e
    obtain ⟨d, hd, e⟩ := bindS e
    obtain ⟨ds', hds, e⟩ := bindS e
    cases e
    obtain ⟨G, s1, s2, q⟩ := settle_all fit h2 hds
    cases o with
    | val x =>
      cases hd
      exact ⟨G, s1, s2, v, ws, rfl, Den.mono s1 _ h1, q⟩
    | fresh x =>
      cases hd
      exact ⟨G, s1, s2, v, ws, rfl, Den.mono s1 _ h1, q⟩
    | place j =>
      have hd : (look r j).map (·.d) = some d := hd
      cases hj : look r j with
      | none => rw [hj] at hd; cases hd
      | some t =>
        rw [hj] at hd
        cases hd
        have hjs := look_some hj
        obtain ⟨u, e1, e2⟩ := fit.slot j t hjs
        rw [show σ[j]? = some (some v) from h1] at e1
        cases e1
        by_cases hz : t.m = .fz
        · unfold SlotOk at e2
          rw [hz] at e2
          exact ⟨G, s1, s2, v, ws, rfl, Den.mono s1 _ e2, q⟩
        · obtain ⟨a, rfl⟩ := e2.ref hz
          obtain ⟨_, _, m3⟩ := e2.mine hz
          obtain ⟨G', t1, t2, t3⟩ := settle_in s1 s2 m3
          exact ⟨G', s1.trans t1, t2, _, ws, rfl, t3, DenL.mono t1 _ q⟩
theorem flat_den {K : Kw} {F G : Hp} {d : Dat} {v : V} (f : flatD d = true) (h : Den K F d v) : Den K G d v := by
  cases d with
  | tup ds => cases f
  | lst ds => cases f
  | dct ks vs => cases f
  | fn c ds => cases f
  | _ => exact h
theorem imp_callB {f : Str} {es : Es} {np : Nat} {σ : L2.St} {H : Hp} {Q : VK} (hio : W.io f = some none) (hnp : ∀ ds x, W.phi f ds = some x → ds.length = np)
    (h : rdE K pro (run W (.callB f es)) σ H Q) : tCall (spD K none np (W.phi f)) [] E0 (rdH K pro (runP W es)) σ H Q := by
  obtain ⟨A, r, F, o, r', ok, fit, hm, q⟩ := h
  unfold run at hm
  obtain ⟨io', hi, hm⟩ := bindS hm
  rw [hio] at hi
  cases hi
  rw [if_pos rfl] at hm
  obtain ⟨⟨os, r1⟩, ha, hm⟩ := bindS hm
  obtain ⟨ds, hd, hm⟩ := bindS hm
  obtain ⟨⟨o2, d⟩, hp, hm⟩ := bindS hm
  dsimp only at hm
  split at hm
  · rename_i x
    split at hm
    · rename_i fl
      cases hm
      refine ⟨A, r, F, os, r', ok, fit, ha, fun vs F1 H1 s1 f1 k1 => ?_⟩
      show spD K none np (W.phi f) (vs ++ []) H1 Q E0
      rw [List.append_nil, ← ok.k]
      obtain ⟨G, g1, g2, g3⟩ := settle_all f1 k1 hd
      have hl := hnp ds _ hp
      refine ⟨G, ds, _, d, hp, ⟨g2, by rw [← DenL.length g3]; exact hl, hl, fun i x v hx hv _ => ?_, fun _ _ _ _ _ z => nomatch z⟩, fun v F' H' po => ?_⟩
      · obtain ⟨y, hy, dy⟩ := DenL.getD g3 hx
        rw [hv] at hy
        cases hy
        exact dy
      · have nio : ∀ b, ¬ IoA none vs b := fun b z => by obtain ⟨i, e, _⟩ := z; cases e
        have hh : Same H1 H' := fun b u e => po.keep b u e (nio b)
        exact q v F1 H' s1 (f1.grow ⟨Same.refl F1, f1.sub.trans hh, hh, fun _ _ z => .inl z⟩) (flat_den fl po.res)
    · cases hm
  · cases hm
end
end Dl

/-! D6: lists that change, walks, comprehensions, loops, statements. -/
namespace Dl
open PySem PySem.Spec PyProof.Rows L2
section
variable {K : Kw} {pro : List Nat} {W : Wd}

theorem lst_of {d : Dat} (h : isLst d = true) : ∃ ds, d = .lst ds := by
  cases d with
  | lst ds => exact ⟨ds, rfl⟩
  | _ => exact absurd (show false = true from h) Bool.false_ne_true
theorem Fit.tyL {A : Fr} {r : Rho} {F H : Hp} {σ : L2.St} (h : Fit A r F σ H) {i : Nat} {s : Sl} {v : V} (e : look r i = some s) (ev : σ[i]? = some (some v)) (l : isLst s.d = true) (hK : A.K = K) : tyV K "list" v H := by
  have g := h.seen (look_some e) ev
  obtain ⟨ds, hd⟩ := lst_of l
  rw [hd] at g
  obtain ⟨a, xs, rfl, hx, _, _⟩ := g
  exact .inl ⟨rfl, xs, by rw [← hK]; exact hx⟩
theorem ix_small {n : Nat} {k : Int} {j : Nat} (h : ixN n k = some j) (hn : n ≤ sizeLine) : seqIndex? k n = some j ∧ -(2 ^ 63) ≤ k ∧ k < 2 ^ 63 := by
  obtain ⟨h1, h2, h3, h4⟩ := ixN_seq h
  have hs : sizeLine = 16777216 := sizeLine_eq
  exact ⟨h1, by omega, by omega⟩
/-- xs.pop(k) -/
theorem imp_pop {i : Nat} {a : E} {σ : L2.St} {H : Hp} {Q : VK} (h : rdE K pro (run W (.pop i a)) σ H Q) :
    tBM K "list" rPopAt (tVar i) (tCons (rdE K pro (run W a)) tNil) σ H Q := by
  obtain ⟨A, r, F, o, r', ok, fit, hm, q⟩ := h
  unfold run at hm
  obtain ⟨s, hs, hm⟩ := bindS hm
  dsimp only at hm
  split at hm
  · rename_i hl
    obtain ⟨⟨oa, r1⟩, ha, hm⟩ := bindS hm
    obtain ⟨d, hd, hm⟩ := bindS hm
    obtain ⟨v, ev, _⟩ := fit.slot i s (look_some hs)
    refine ⟨v, ev, fit.tyL hs ev hl ok.k, A, r, F, oa, r1, ok, fit, ha, fun v1 F1 H1 s1 f1 k1 => ?_⟩
    obtain ⟨F1', s1', f1', h1⟩ := f1.hold k1
    have g1 := Held.seen f1' h1 hd
    have fin : ∀ (ds : List Dat) (m : Mu) (k : Int) (j : Nat) (x : Dat), m ≠ .fz → look r1 i = some ⟨.lst ds, m⟩ → d = .int k → ixN ds.length k = some j → ds[j]? = some x → o = .val x → r' = r1.set i (some ⟨.lst (ds.eraseIdx j), m⟩) → rPopAt v [v1] H1 Q := by
      rintro ds m k j x mz hi rfl hj hx rfl rfl
      have hi' := look_some hi
      obtain ⟨w, w1, w2⟩ := f1'.slot i _ hi'
      rw [ev] at w1
      cases w1
      obtain ⟨b, rfl⟩ := w2.ref mz
      obtain ⟨m1, m2, xs, m3, m4, m5⟩ := w2.mine mz
      have hlen := DenL.length m5
      rw [hlen] at hj
      obtain ⟨j1, j2, j3⟩ := ix_small hj m4
      obtain ⟨y, hy, dy⟩ := DenL.getD m5 hx
      refine ⟨b, xs, k, j, y, rfl, by rw [show v1 = V.int k from g1], m3, j2, j3, j1, hy, ?_⟩
      have fr := f1'.rewrite (xs := xs.eraseIdx j) hi' mz ev (Nat.le_trans (len_erase xs j) m4) (DenL.erase j m5)
      exact q y F1' _ (s1.trans s1') fr dy
    split at hm
    · rename_i ds k hi
      obtain ⟨j, hj, hm⟩ := bindS hm
      obtain ⟨x, hx, hm⟩ := bindS hm
      cases hm
      exact fin ds .own k j x (by decide) hi rfl hj hx rfl rfl
    · rename_i ds k hi
      obtain ⟨j, hj, hm⟩ := bindS hm
      obtain ⟨x, hx, hm⟩ := bindS hm
      cases hm
      exact fin ds .io k j x (by decide) hi rfl hj hx rfl rfl
    · cases hm
  · cases hm
/-- xs.append(x) -/
theorem imp_app {i : Nat} {a : E} {σ : L2.St} {H : Hp} {Q : VK} (h : rdE K pro (run W (.app i a)) σ H Q) :
    tBM K "list" rAppend (tVar i) (tCons (rdE K pro (run W a)) tNil) σ H Q := by
  obtain ⟨A, r, F, o, r', ok, fit, hm, q⟩ := h
  unfold run at hm
  obtain ⟨s, hs, hm⟩ := bindS hm
  dsimp only at hm
  split at hm
  · rename_i hl
    obtain ⟨⟨oa, r1⟩, ha, hm⟩ := bindS hm
    obtain ⟨⟨x, r2⟩, hd, hm⟩ := bindS hm
    obtain ⟨v, ev, _⟩ := fit.slot i s (look_some hs)
    refine ⟨v, ev, fit.tyL hs ev hl ok.k, A, r, F, oa, r1, ok, fit, ha, fun v1 F1 H1 s1 f1 k1 => ?_⟩
    obtain ⟨F1', s1', f1', h1⟩ := f1.frz k1 hd
    have fin : ∀ (ds : List Dat) (m : Mu), m ≠ .fz → look r2 i = some ⟨.lst ds, m⟩ → ds.length < sizeLine → o = .val .non → r' = r2.set i (some ⟨.lst (ds ++ [x]), m⟩) → rAppend v [v1] H1 Q := by
      rintro ds m mz hi hj rfl rfl
      have hi' := look_some hi
      obtain ⟨w, w1, w2⟩ := f1'.slot i _ hi'
      rw [ev] at w1
      cases w1
      obtain ⟨b, rfl⟩ := w2.ref mz
      obtain ⟨m1, m2, xs, m3, m4, m5⟩ := w2.mine mz
      have hlen := DenL.length m5
      refine ⟨b, xs, v1, rfl, rfl, m3, by omega, ?_⟩
      have fr := f1'.rewrite (xs := xs ++ [v1]) hi' mz ev (by rw [List.length_append, List.length_singleton]; omega) (DenL.app m5 (DenL.one h1))
      exact q .non F1' _ (s1.trans s1') fr rfl
    dsimp only at hm
    split at hm
    · rename_i ds hi
      split at hm
      · rename_i hz
        cases hm
        exact fin ds .own (by decide) hi hz rfl rfl
      · cases hm
    · rename_i ds hi
      split at hm
      · rename_i hz
        cases hm
        exact fin ds .io (by decide) hi hz rfl rfl
      · cases hm
    · cases hm
  · cases hm
/-- xs[k] = e, d[k] = e -/
theorem imp_setAt {n : Nat} {i : Nat} {ix e : E} {D : Ends} {σ : L2.St} {H : Hp} (h : rdS K pro (runS W n (.setAt i ix e)) D σ H) :
    tAsg (rdE K pro (run W e)) (gSub (tVar i) (rdE K pro (run W ix)) (rSetDL K)) D σ H := by
  obtain ⟨A, r, F, fl, ok, fit, hm, q⟩ := h
  unfold runS at hm
  obtain ⟨⟨oa, r1⟩, ha, hm⟩ := bindS hm
  obtain ⟨⟨x, r2⟩, hd, hm⟩ := bindS hm
  obtain ⟨s0, hs0, hm⟩ := bindS hm
  obtain ⟨⟨ob, r3⟩, hb, hm⟩ := bindS hm
  dsimp only at hm
  refine ⟨A, r, F, oa, r1, ok, fit, ha, fun v1 F1 H1 s1 f1 k1 => ?_⟩
  obtain ⟨F1', s1', f1', h1⟩ := f1.frz k1 hd
  obtain ⟨v0, ev0, _⟩ := f1'.slot i s0 (look_some hs0)
  have fin : ∀ (ds : List Dat) (m : Mu) (k : Int) (j : Nat), m ≠ .fz → look r3 i = some ⟨.lst ds, m⟩ → res r3 ob = some (.int k) → ixN ds.length k = some j → fl = .next (r3.set i (some ⟨.lst (ds.set j x), m⟩)) →
      (∃ v, σ[i]? = some (some v)) → gSub (tVar i) (rdE K pro (run W ix)) (rSetDL K) v1 σ H1 D.nx := by
    rintro ds m k j mz hi hk hj rfl ⟨v, ev⟩
    have hi' := look_some hi
    refine ⟨v, ev, A, r2, F1', ob, r3, ok, f1', hb, fun v2 F2 H2 s2 f2 k2 => ?_⟩
    obtain ⟨F2', s2', f2', h2⟩ := f2.hold k2
    have g1 := Held.seen f2' h2 hk
    obtain ⟨w, w1, w2⟩ := f2'.slot i _ hi'
    rw [ev] at w1
    cases w1
    obtain ⟨b, rfl⟩ := w2.ref mz
    obtain ⟨m1, m2, xs, m3, m4, m5⟩ := w2.mine mz
    have hlen := DenL.length m5
    rw [hlen] at hj
    refine .inl ⟨b, xs, k, j, rfl, g1, m3, hj, ?_⟩
    have fr := f2'.rewrite (xs := xs.set j v1) hi' mz ev (by rw [List.length_set]; exact m4) (DenL.set (Den.mono (s2.trans s2') _ h1) j m5)
    exact q σ F2' _ ((s1.trans s1').trans (s2.trans s2')) fr
  have finD : ∀ (ks vs : List Dat) (m : Mu) (k : Dat), m ≠ .fz → look r3 i = some ⟨.dct ks vs, m⟩ → res r3 ob = some k → okey ks k = true → ks.length < sizeLine → fl = .next (r3.set i (some ⟨putD k x ks vs, m⟩)) →
      (∃ v, σ[i]? = some (some v)) → gSub (tVar i) (rdE K pro (run W ix)) (rSetDL K) v1 σ H1 D.nx := by
    rintro ks vs m k mz hi hk hok hl rfl ⟨v, ev⟩
    have hi' := look_some hi
    refine ⟨v, ev, A, r2, F1', ob, r3, ok, f1', hb, fun v2 F2 H2 s2 f2 k2 => ?_⟩
    obtain ⟨F2', s2', f2', h2⟩ := f2.hold k2
    have g1 := Held.seen f2' h2 hk
    obtain ⟨w, w1, w2⟩ := f2'.slot i _ hi'
    rw [ev] at w1
    cases w1
    obtain ⟨b, rfl⟩ := w2.ref mz
    obtain ⟨m1, m2, m3⟩ := w2.mine mz
    refine .inr ⟨b, F2', ks, vs, k, x, rfl, f2'.sub, by rw [← ok.k]; exact Seen.own m3, by rw [← ok.k]; exact g1, hok, by rw [← ok.k]; exact Den.mono (s2.trans s2') _ h1, hl, fun H' pt => ?_⟩
    obtain ⟨u, rfl, ow⟩ := pt
    rw [← ok.k] at ow
    exact q σ F2' _ ((s1.trans s1').trans (s2.trans s2')) (f2'.rewriteO hi' mz ev ow)
  split at hm
  · rename_i ds k hi hk
    obtain ⟨j, hj, hm⟩ := bindS hm
    cases hm
    exact fin ds .own k j (by decide) hi hk hj rfl ⟨v0, ev0⟩
  · rename_i ds k hi hk
    obtain ⟨j, hj, hm⟩ := bindS hm
    cases hm
    exact fin ds .io k j (by decide) hi hk hj rfl ⟨v0, ev0⟩
  · rename_i ks vs k hi hk
    split at hm
    · rename_i hc
      cases hm
      exact finD ks vs .own k (by decide) hi hk hc.1 hc.2 rfl ⟨v0, ev0⟩
    · cases hm
  · rename_i ks vs k hi hk
    split at hm
    · rename_i hc
      cases hm
      exact finD ks vs .io k (by decide) hi hk hc.1 hc.2 rfl ⟨v0, ev0⟩
    · cases hm
  · cases hm

/-! ### targets -/
def gNames : List Nat → TGs
  | [] => gNil
  | i :: is => gCons (gName i) (gNames is)
def gT (K : Kw) : Tg → TG
  | .name i => gName i
  | .tup is => gTup K is.length (gNames is)
def tgSlots : Tg → List Nat
  | .name i => [i]
  | .tup is => is
theorem putAll_ok {A : Fr} {F H : Hp} {Q : L2.St → Hp → Prop} : ∀ {is : List Nat} {ds : List Dat} {xs : List V} {r r' : Rho} {σ : L2.St}, Fit A r F σ H → DenL A.K F ds xs → putAll r is ds = some r' → (∀ p ∈ A.pro, p.1 ∉ is) →
    (∀ σ', σ'.length = σ.length → (∀ j, j ∉ is → σ'[j]? = σ[j]?) → Fit A r' F σ' H → Q σ' H) → xs.length = is.length ∧ gNames is xs σ H Q
  | [], [], xs, r, r', σ, fit, hd, hp, hpr, q => by
    have hd : xs = [] := hd
    subst hd
    cases hp
    exact ⟨rfl, rfl, q σ rfl (fun _ _ => rfl) fit⟩
  | i :: is, d :: ds, xs, r, r', σ, fit, hd, hp, hpr, q => by
    obtain ⟨v, vs, rfl, h1, h2⟩ := hd
    have f1 := fit.put (i := i) (s := ⟨d, .fz⟩) (v := v) (fun p hpp z => hpr p hpp (by rw [z]; exact List.mem_cons_self)) h1 fun z => absurd rfl z
    obtain ⟨l, g⟩ := putAll_ok (Q := Q) (is := is) f1 h2 hp (fun p hpp z => hpr p hpp (List.mem_cons_of_mem _ z)) fun σ' hl hs f' => q σ' (by rw [hl, List.length_set]) (fun j hj => by
      rw [hs j fun z => hj (List.mem_cons_of_mem _ z), List.getElem?_set_ne fun z => hj (by rw [z]; exact List.mem_cons_self)]) f'
    exact ⟨by rw [List.length_cons, List.length_cons, l], v, vs, rfl, g⟩
  | [], _ :: _, _, _, _, _, _, _, hp, _, _ => by cases hp
  | _ :: _, [], _, _, _, _, _, _, hp, _, _ => by cases hp
theorem bind_ok {A : Fr} {F H : Hp} {Q : L2.St → Hp → Prop} {tg : Tg} {d : Dat} {v : V} {r r' : Rho} {σ : L2.St} (fit : Fit A r F σ H) (hd : Den A.K F d v) (hp : bindT r tg d = some r') (hpr : ∀ p ∈ A.pro, p.1 ∉ tgSlots tg)
    (q : ∀ σ', σ'.length = σ.length → (∀ j, j ∉ tgSlots tg → σ'[j]? = σ[j]?) → Fit A r' F σ' H → Q σ' H) : gT A.K tg v σ H Q := by
  cases tg with
  | name i =>
    cases hp
    have f1 := fit.put (i := i) (s := ⟨d, .fz⟩) (v := v) (fun p hpp z => hpr p hpp (by rw [z]; exact List.mem_cons_self)) hd fun z => absurd rfl z
    exact q _ (by rw [List.length_set]) (fun j hj => List.getElem?_set_ne fun z => hj (by rw [z]; exact List.mem_cons_self)) f1
  | tup is =>
    cases d with
    | tup ds =>
      obtain ⟨a, xs, rfl, hx, lx, h2⟩ := hd
      obtain ⟨l, g⟩ := putAll_ok (Q := Q) fit h2 hp hpr q
      exact ⟨a, xs, rfl, Same.seqT fit.sub hx, l, g⟩
    | _ => cases hp

/-! ### what is walked -/
/-- one item: a settled datum, or a new tuple of such -/
def Step (K : Kw) (F H : Hp) (x : V) (H' : Hp) (d : Dat) : Prop := NewOk K F H x H' (.val d)
structure JW (K : Kw) (F : Hp) (J : It) (ds : List Dat) : Prop where
  small : ds.length ≤ sizeLine
  go : ∀ i H, Same F H → i < ds.length → J.go i H
  yld : ∀ i d H x H', Same F H → ds[i]? = some d → J.yld i H x H' → ∃ F', New K F H F' H' ∧ Den K F' d x
  stop : ∀ i H, Same F H → ds.length = i → J.stop i H
def rdI (K : Kw) (pro : List Nat) (m : Rho → Option (List Dat × Rho)) : TI := fun σ H R => ∃ A r F ds r', Ok K pro A ∧ Fit A r F σ H ∧ m r = some (ds, r') ∧ ∀ J F' H', Same F F' → Fit A r' F' σ H' → JW A.K F' J ds → R J H'
theorem jw_list {F H : Hp} {a : Addr} {xs : List V} {ds : List Dat} (h : SqL K F a xs) (l : xs.length ≤ sizeLine) (r : DenL K F ds xs) : JW K F (Itl K a) ds where
  small := by rw [DenL.length r]; exact l
  go := fun i H s hi => by
    rw [DenL.length r] at hi
    exact ⟨xs, xs[i], s.seq h, List.getElem?_eq_getElem hi⟩
  yld := fun i d H x H' s hd y => by
    obtain ⟨e, y⟩ := y
    subst e
    obtain ⟨x', hx, dx⟩ := DenL.getD r hd
    rw [y xs (s.seq h)] at hx
    cases hx
    exact ⟨F, New.refl s, dx⟩
  stop := fun i H s hi => ⟨xs, s.seq h, by rw [← DenL.length r]; exact Nat.le_of_eq hi⟩
theorem jw_tup {F H : Hp} {a : Addr} {xs : List V} {ds : List Dat} (h : SqT K F a xs) (l : xs.length ≤ sizeLine) (r : DenL K F ds xs) : JW K F (Itt K a) ds where
  small := by rw [DenL.length r]; exact l
  go := fun i H s hi => by
    rw [DenL.length r] at hi
    exact ⟨xs, xs[i], Same.seqT s h, List.getElem?_eq_getElem hi⟩
  yld := fun i d H x H' s hd y => by
    obtain ⟨e, y⟩ := y
    subst e
    obtain ⟨x', hx, dx⟩ := DenL.getD r hd
    rw [y xs (Same.seqT s h)] at hx
    cases hx
    exact ⟨F, New.refl s, dx⟩
  stop := fun i H s hi => ⟨xs, Same.seqT s h, by rw [← DenL.length r]; exact Nat.le_of_eq hi⟩
theorem jw_str {F : Hp} {x : Str} (l : x.length ≤ sizeLine) : JW K F (Its x) ((signs x).map .str) where
  small := by
    unfold signs
    rw [List.length_map, List.length_map, Array.length_toList]
    exact l
  go := fun i H s hi => by
    unfold signs at hi
    rw [List.length_map, List.length_map, Array.length_toList] at hi
    exact hi
  yld := fun i d H v H' s hd y => by
    obtain ⟨e, c, hc, rfl⟩ := y
    subst e
    unfold signs at hd
    rw [List.map_map, List.getElem?_map, Array.getElem?_toList, hc] at hd
    cases hd
    exact ⟨F, New.refl s, rfl, by show (1 : Nat) ≤ sizeLine; decide⟩
  stop := fun i H s hi => by
    unfold signs at hi
    rw [List.length_map, List.length_map, Array.length_toList] at hi
    exact Nat.le_of_eq hi
theorem jw_range {F : Hp} {lo : Int} {n : Nat} (l : n ≤ sizeLine) : JW K F (Itr lo n) (rangeD lo n) where
  small := by
    unfold rangeD
    rw [List.length_map, List.length_range]
    exact l
  go := fun i H s hi => by
    unfold rangeD at hi
    rw [List.length_map, List.length_range] at hi
    exact hi
  yld := fun i d H v H' s hd y => by
    obtain ⟨e, rfl⟩ := y
    subst e
    unfold rangeD at hd
    rw [List.getElem?_map] at hd
    cases hr : (List.range n)[i]? with
    | none => rw [hr] at hd; cases hd
    | some k =>
      rw [hr] at hd
      cases hd
      have hk := List.getElem?_eq_some_iff.mp hr
      obtain ⟨h1, h2⟩ := hk
      rw [List.getElem_range] at h2
      subst h2
      exact ⟨F, New.refl s, rfl⟩
  stop := fun i H s hi => by
    unfold rangeD at hi
    rw [List.length_map, List.length_range] at hi
    exact Nat.le_of_eq hi
theorem den_kd {F : Hp} {d : Dat} {v : V} {ds : List Dat} (h : Den K F d v) (e : items d = some ds) : ∃ (k : Kd) (xs : List V), k.v = v ∧ k.has K F xs ∧ xs.length ≤ sizeLine ∧ DenL K F ds xs := by
  cases d with
  | lst es =>
    cases e
    obtain ⟨a, xs, rfl, hx, lx, rx⟩ := h
    exact ⟨.l a, xs, rfl, hx, lx, rx⟩
  | tup es =>
    cases e
    obtain ⟨a, xs, rfl, hx, lx, rx⟩ := h
    exact ⟨.t a, xs, rfl, hx, lx, rx⟩
  | str z =>
    cases e
    obtain ⟨rfl, lx⟩ := h
    refine ⟨.s z 0, _, rfl, rfl, by rw [List.length_map, Array.length_toList]; exact lx, ?_⟩
    have := DenL.of_strs (K := K) (H := F) (signs z) fun n hn => by
      unfold signs at hn
      obtain ⟨c, _, rfl⟩ := List.mem_map.mp hn
      show (1 : Nat) ≤ sizeLine
      decide
    unfold signs at this ⊢
    rw [List.map_map] at this ⊢
    rw [List.map_map] at this
    exact this
  | _ => cases e
theorem Kd.has_mono {F H : Hp} (s : Same F H) {k : Kd} {xs : List V} (h : k.has K F xs) : k.has K H xs := by
  cases k with
  | l a => exact s.seq h
  | t a => exact Same.seqT s h
  | s x u => exact h
theorem zipD_len : ∀ xs ys : List Dat, (zipD xs ys).length = min xs.length ys.length
  | [], _ => by simp [zipD]
  | _ :: _, [] => by simp [zipD]
  | x :: xs, y :: ys => by
    unfold zipD
    rw [List.length_cons, zipD_len xs ys, List.length_cons, List.length_cons]
    omega
theorem zipD_get : ∀ (xs ys : List Dat) (i : Nat) (d : Dat), (zipD xs ys)[i]? = some d → ∃ x y, xs[i]? = some x ∧ ys[i]? = some y ∧ d = .tup [x, y]
  | [], _, i, d, h => by simp [zipD] at h
  | _ :: _, [], i, d, h => by simp [zipD] at h
  | x :: xs, y :: ys, 0, d, h => by
    cases h
    exact ⟨x, y, rfl, rfl, rfl⟩
  | x :: xs, y :: ys, i + 1, d, h => zipD_get xs ys i d h
theorem enumD_len : ∀ (i : Nat) (xs : List Dat), (enumD i xs).length = xs.length
  | _, [] => rfl
  | i, x :: xs => by
    unfold enumD
    rw [List.length_cons, enumD_len (i + 1) xs, List.length_cons]
theorem enumD_get : ∀ (k : Nat) (xs : List Dat) (i : Nat) (d : Dat), (enumD k xs)[i]? = some d → ∃ x, xs[i]? = some x ∧ d = .tup [.int ((k + i : Nat) : Int), x]
  | _, [], i, d, h => by simp [enumD] at h
  | k, x :: xs, 0, d, h => by
    cases h
    exact ⟨x, rfl, rfl⟩
  | k, x :: xs, i + 1, d, h => by
    obtain ⟨y, e, rfl⟩ := enumD_get (k + 1) xs i d h
    exact ⟨y, e, by rw [show k + 1 + i = k + (i + 1) by omega]⟩
theorem jw_zip {F : Hp} {k1 k2 : Kd} {xs ys : List V} {ds es : List Dat} (h1 : k1.has K F xs) (h2 : k2.has K F ys) (l : xs.length ≤ sizeLine) (r1 : DenL K F ds xs) (r2 : DenL K F es ys) : JW K F (Itz2 K k1 k2) (zipD ds es) where
  small := by rw [zipD_len, DenL.length r1]; exact Nat.le_trans (Nat.min_le_left _ _) l
  go := fun i H s hi => ⟨xs, ys, Kd.has_mono s h1, Kd.has_mono s h2, by rw [← DenL.length r1, ← DenL.length r2, ← zipD_len]; exact hi⟩
  yld := fun i d H x H' s hd y => by
    obtain ⟨T, a, b, rfl, hT, rfl, f1, f2⟩ := y
    obtain ⟨da, db, e1, e2, rfl⟩ := zipD_get _ _ _ _ hd
    obtain ⟨va, g1, q1⟩ := DenL.getD r1 e1
    obtain ⟨vb, g2, q2⟩ := DenL.getD r2 e2
    rw [f1 xs (Kd.has_mono s h1)] at g1
    rw [f2 ys (Kd.has_mono s h2)] at g2
    cases g1
    cases g2
    exact NewOk.tup s hT (by show 2 ≤ sizeLine; decide) (DenL.cons q1 (DenL.one q2))
  stop := fun i H s hi => ⟨xs, ys, Kd.has_mono s h1, Kd.has_mono s h2, by rw [← DenL.length r1, ← DenL.length r2, ← zipD_len]; exact hi.symm⟩
theorem jw_enum {F : Hp} {k1 : Kd} {xs : List V} {ds : List Dat} (h1 : k1.has K F xs) (l : xs.length ≤ sizeLine) (r1 : DenL K F ds xs) : JW K F (Ite2 K k1) (enumD 0 ds) where
  small := by rw [enumD_len, DenL.length r1]; exact l
  go := fun i H s hi => ⟨xs, Kd.has_mono s h1, by rw [← DenL.length r1]; rw [enumD_len] at hi; exact hi⟩
  yld := fun i d H x H' s hd y => by
    obtain ⟨T, a, rfl, hT, rfl, f1⟩ := y
    obtain ⟨da, e1, rfl⟩ := enumD_get _ _ _ _ hd
    obtain ⟨va, g1, q1⟩ := DenL.getD r1 e1
    rw [f1 xs (Kd.has_mono s h1)] at g1
    cases g1
    rw [Nat.zero_add]
    exact NewOk.tup s hT (by show 2 ≤ sizeLine; decide) (DenL.cons rfl (DenL.one q1))
  stop := fun i H s hi => ⟨xs, Kd.has_mono s h1, by rw [← DenL.length r1]; rw [enumD_len] at hi; exact hi.symm⟩
theorem imp_zip {es : Es} {σ : L2.St} {H : Hp} {R : It → Hp → Prop} (h : rdI K pro (runI W (.zip es)) σ H R) : iZip2 K (rdL K pro (runL W es)) σ H R := by
  obtain ⟨A, r, F, ds, r', ok, fit, hm, q⟩ := h
  unfold runI at hm
  obtain ⟨⟨os, r1⟩, ha, hm⟩ := bindS hm
  dsimp only at hm
  split at hm
  · rename_i d e
    obtain ⟨xs, hx, hm⟩ := bindS hm
    obtain ⟨ys, hy, hm⟩ := bindS hm
    cases hm
    refine ⟨A, r, F, [d, e], r', ok, fit, ha, fun vs F1 H1 s1 f1 dl => ?_⟩
    obtain ⟨v, vs1, rfl, dv, dl⟩ := dl
    obtain ⟨w, vs2, rfl, dw, dl⟩ := dl
    cases dl
    obtain ⟨k1, zs1, rfl, g1, l1, n1⟩ := den_kd dv hx
    obtain ⟨k2, zs2, rfl, g2, l2, n2⟩ := den_kd dw hy
    rw [ok.k] at g1 g2 n1 n2
    refine ⟨k1, k2, zs1, zs2, rfl, Kd.has_mono f1.sub g1, Kd.has_mono f1.sub g2, ?_⟩
    exact q _ F1 H1 s1 f1 (by rw [ok.k]; exact jw_zip g1 g2 l1 n1 n2)
  · cases hm
theorem imp_enm {es : Es} {σ : L2.St} {H : Hp} {R : It → Hp → Prop} (h : rdI K pro (runI W (.enm es)) σ H R) : iEnum2 K (rdL K pro (runL W es)) σ H R := by
  obtain ⟨A, r, F, ds, r', ok, fit, hm, q⟩ := h
  unfold runI at hm
  obtain ⟨⟨os, r1⟩, ha, hm⟩ := bindS hm
  dsimp only at hm
  split at hm
  · rename_i d
    obtain ⟨xs, hx, hm⟩ := bindS hm
    cases hm
    refine ⟨A, r, F, [d], r', ok, fit, ha, fun vs F1 H1 s1 f1 dl => ?_⟩
    obtain ⟨v, vs1, rfl, dv, dl⟩ := dl
    cases dl
    obtain ⟨k1, zs1, rfl, g1, l1, n1⟩ := den_kd dv hx
    rw [ok.k] at g1 n1
    exact ⟨k1, zs1, rfl, Kd.has_mono f1.sub g1, q _ F1 H1 s1 f1 (by rw [ok.k]; exact jw_enum g1 l1 n1)⟩
  · cases hm
/-- over a list, a tuple, a text -/
theorem pi_seq {X : Cx} {tg e : Expr} {ir : E} (hK : X.kw = K) (h : PE X e (rdE K pro (run W ir))) : PI X tg e (rdI K pro (runI W (.seq ir))) := by
  refine ⟨fun pins s σ H R I hr => ?_⟩
  obtain ⟨A, r, F, ds, r', ok, fit, hm, q⟩ := hr
  unfold runI at hm
  obtain ⟨⟨oa, r1⟩, ha, hm⟩ := bindS hm
  obtain ⟨⟨d, r2⟩, hd, hm⟩ := bindS hm
  obtain ⟨ds', hi, hm⟩ := bindS hm
  cases hm
  cases d with
  | lst es =>
    cases hi
    refine (pi_list h).run pins s σ H R I ⟨A, r, F, oa, r1, ok, fit, ha, fun v F1 H1 s1 f1 k1 => ?_⟩
    obtain ⟨F1', s1', f1', a, xs, rfl, hx, lx, rx⟩ := f1.frz k1 hd
    refine ⟨a, rfl, ⟨xs, ?_⟩, ?_⟩
    · rw [show X.K = K.K from congrArg Kw.K hK, ← ok.k]
      exact f1'.sub.seq hx
    · rw [show X.K = K.K from congrArg Kw.K hK, ← ok.k]
      exact q _ F1' H1 (s1.trans s1') f1' (jw_list (H := H1) hx lx rx)
  | tup es =>
    cases hi
    refine (pi_tup h).run pins s σ H R I ⟨A, r, F, oa, r1, ok, fit, ha, fun v F1 H1 s1 f1 k1 => ?_⟩
    obtain ⟨F1', s1', f1', a, xs, rfl, hx, lx, rx⟩ := f1.frz k1 hd
    refine ⟨a, rfl, ⟨xs, ?_⟩, ?_⟩
    · rw [show X.K = K.K from congrArg Kw.K hK, ← ok.k]
      exact Same.seqT f1'.sub hx
    · rw [show X.K = K.K from congrArg Kw.K hK, ← ok.k]
      exact q _ F1' H1 (s1.trans s1') f1' (jw_tup (H := H1) hx lx rx)
  | str z =>
    cases hi
    refine (pi_str h).run pins s σ H R I ⟨A, r, F, oa, r1, ok, fit, ha, fun v F1 H1 s1 f1 k1 => ?_⟩
    obtain ⟨F1', s1', f1', rfl, lx⟩ := f1.frz k1 hd
    exact ⟨z, rfl, q _ F1' H1 (s1.trans s1') f1' (jw_str lx)⟩
  | _ => cases hi
theorem imp_rng1 {a : E} {σ : L2.St} {H : Hp} {R : It → Hp → Prop} (h : rdI K pro (runI W (.rng1 a)) σ H R) : iRng1 (tCons (rdE K pro (run W a)) tNil) σ H R := by
  obtain ⟨A, r, F, ds, r', ok, fit, hm, q⟩ := h
  unfold runI at hm
  obtain ⟨⟨oa, r1⟩, ha, hm⟩ := bindS hm
  dsimp only at hm
  split at hm
  · rename_i n hn
    split at hm
    · rename_i hz
      cases hm
      refine ⟨A, r, F, oa, r', ok, fit, ha, fun v F1 H1 s1 f1 k1 => ?_⟩
      obtain ⟨F1', s1', f1', h1⟩ := f1.hold k1
      have g1 := Held.seen f1' h1 hn
      have hs : sizeLine = 16777216 := sizeLine_eq
      exact ⟨n, by rw [show v = V.int n from g1], hz.1, by omega, q _ F1' H1 (s1.trans s1') f1' (jw_range hz.2)⟩
    · cases hm
  · cases hm
theorem imp_rng2 {a b : E} {σ : L2.St} {H : Hp} {R : It → Hp → Prop} (h : rdI K pro (runI W (.rng2 a b)) σ H R) : iRng2 (tCons (rdE K pro (run W a)) (tCons (rdE K pro (run W b)) tNil)) σ H R := by
  obtain ⟨A, r, F, ds, r', ok, fit, hm, q⟩ := h
  unfold runI at hm
  obtain ⟨⟨oa, r1⟩, ha, hm⟩ := bindS hm
  obtain ⟨⟨ob, r2⟩, hb, hm⟩ := bindS hm
  dsimp only at hm
  split at hm
  · rename_i i j hi hj
    split at hm
    · rename_i hz
      cases hm
      refine ⟨A, r, F, oa, r1, ok, fit, ha, fun v F1 H1 s1 f1 k1 => ?_⟩
      obtain ⟨F1', s1', f1', h1⟩ := f1.hold k1
      refine ⟨A, r1, F1', ob, r', ok, f1', hb, fun v2 F2 H2 s2 f2 k2 => ?_⟩
      obtain ⟨F2', s2', f2', h2⟩ := f2.hold k2
      have g1 := Held.seen f2' (h1.mono (s2.trans s2')) hi
      have g2 := Held.seen f2' h2 hj
      exact ⟨i, j, by rw [show v = V.int i from g1, show v2 = V.int j from g2], ⟨hz.1, hz.2.1, hz.2.2.1, hz.2.2.2.1⟩, q _ F2' H2 ((s1.trans s1').trans (s2.trans s2')) f2' (jw_range hz.2.2.2.2)⟩
    · cases hm
  · cases hm

/-! ### slots wiped -/
theorem wipeR_len (r : Rho) : ∀ is : List Nat, (wipeR r is).length = r.length
  | [] => rfl
  | i :: is => by unfold wipeR; rw [List.length_set, wipeR_len r is]
theorem wipeR_get {r : Rho} {j : Nat} {s : Sl} : ∀ {is : List Nat}, (wipeR r is)[j]? = some (some s) → r[j]? = some (some s) ∧ j ∉ is
  | [], h => ⟨h, by simp⟩
  | i :: is, h => by
    unfold wipeR at h
    rcases set_get h with ⟨_, z⟩ | ⟨n, z⟩
    · cases z
    · obtain ⟨h1, h2⟩ := wipeR_get z
      exact ⟨h1, by simp only [List.mem_cons, not_or]; exact ⟨n, h2⟩⟩
theorem Fit.wiped {A : Fr} {r : Rho} {F H : Hp} {σ : L2.St} (h : Fit A r F σ H) (is : List Nat) : Fit A (wipeR r is) F σ H := h.less (wipeR_len r is) fun _ _ e => (wipeR_get e).1
theorem wipe_ne (σ : L2.St) {j : Nat} : ∀ {is : List Nat}, j ∉ is → (wipe σ is)[j]? = σ[j]?
  | [], _ => rfl
  | i :: is, h => by
    unfold wipe
    rw [List.getElem?_set_ne (fun z => h (by rw [z]; exact List.mem_cons_self))]
    exact wipe_ne σ fun z => h (List.mem_cons_of_mem _ z)
theorem wipe_in (σ : L2.St) {j : Nat} : ∀ {is : List Nat}, j ∈ is → (wipe σ is)[j]? = if j < σ.length then some none else none
  | i :: is, h => by
    unfold wipe
    by_cases e : i = j
    · subst e
      rw [List.getElem?_set_self']
      by_cases hi : i < σ.length
      · rw [if_pos hi]
        have : i < (wipe σ is).length := by rw [wipe_length]; exact hi
        rw [List.getElem?_eq_getElem this]
        rfl
      · rw [if_neg hi]
        have : ¬ i < (wipe σ is).length := by rw [wipe_length]; exact hi
        rw [List.getElem?_eq_none (by omega)]
        rfl
    · rw [List.getElem?_set_ne e]
      rcases List.mem_cons.mp h with z | z
      · exact absurd z.symm e
      · exact wipe_in σ z
theorem wipe_eq {σ σ' : L2.St} {is : List Nat} (hl : σ'.length = σ.length) (h : ∀ j, j ∉ is → σ'[j]? = σ[j]?) : wipe σ' is = wipe σ is := by
  refine List.ext_getElem? fun j => ?_
  by_cases hj : j ∈ is
  · rw [wipe_in _ hj, wipe_in _ hj, hl]
  · rw [wipe_ne _ hj, wipe_ne _ hj, h j hj]
theorem Fit.toWipe {A : Fr} {r : Rho} {F H : Hp} {σ : L2.St} (h : Fit A r F σ H) {is : List Nat} (hp : ∀ p ∈ A.pro, p.1 ∉ is) : Fit A (wipeR r is) F (wipe σ is) H :=
  h.moved (by rw [wipeR_len, wipe_length, h.len]) (fun j s e => ⟨(wipeR_get e).1, wipe_ne σ (wipeR_get e).2⟩) fun p hpp => by rw [wipe_ne σ (hp p hpp)]; exact h.pro p hpp

/-! ### comprehensions -/
theorem back_len (r₁ r : Rho) : ∀ is : List Nat, (back r₁ r is).length = r.length
  | [] => rfl
  | i :: is => by unfold back; rw [List.length_set, back_len r₁ r is]
theorem back_get {r₁ r : Rho} {j : Nat} {s : Sl} : ∀ {is : List Nat}, (back r₁ r is)[j]? = some (some s) → (r[j]? = some (some s) ∧ j ∉ is) ∨ (j ∈ is ∧ r₁[j]? = some (some s) ∧ s.m = .fz)
  | [], h => .inl ⟨h, by simp⟩
  | i :: is, h => by
    unfold back at h
    rcases set_get h with ⟨rfl, z⟩ | ⟨n, z⟩
    · refine .inr ⟨List.mem_cons_self, ?_⟩
      split at z
      · rename_i d hl
        cases z
        exact ⟨look_some hl, rfl⟩
      · cases z
    · rcases back_get z with ⟨h1, h2⟩ | ⟨h1, h2⟩
      · exact .inl ⟨h1, by simp only [List.mem_cons, not_or]; exact ⟨n, h2⟩⟩
      · exact .inr ⟨List.mem_cons_of_mem _ h1, h2⟩
/-- behind the block the slots are as they were ahead of it -/
theorem Fit.back {A : Fr} {r₁ r : Rho} {F₁ F H₁ H : Hp} {σ : L2.St} {is : List Nat} (h₁ : Fit A r₁ F₁ σ H₁) (sf : Same F₁ F) (h : Fit A r F (wipe σ is) H) : Fit A (Dl.back r₁ r is) F σ H := by
  refine ⟨h.sub, h.keep, h.newf, h.f0, h.ioh, fun j s e => ?_, fun j k s t a n e1 m1 e2 m2 s1 s2 => ?_, h₁.pro, by rw [back_len, h.len, wipe_length]⟩
  · rcases back_get e with ⟨q1, q2⟩ | ⟨_, q2, q3⟩
    · obtain ⟨v, e1, e2⟩ := h.slot j s q1
      rw [wipe_ne σ q2] at e1
      exact ⟨v, e1, e2⟩
    · obtain ⟨v, e1, e2⟩ := h₁.slot j s q2
      refine ⟨v, e1, ?_⟩
      unfold SlotOk at e2 ⊢
      rw [q3] at e2 ⊢
      exact Den.mono sf _ e2
  · rcases back_get e1 with ⟨q1, q2⟩ | ⟨_, _, q3⟩
    · rcases back_get e2 with ⟨p1, p2⟩ | ⟨_, _, p3⟩
      · rw [← wipe_ne σ q2] at s1
        rw [← wipe_ne σ p2] at s2
        exact h.sep j k s t a n q1 m1 p1 m2 s1 s2
      · exact m2 p3
    · exact m1 q3
/-- the turn of a comprehension -/
def turnC (W : Wd) (own : List Nat) (tg : Tg) (c : Ot) (elt : E) (d : Dat) (r : Rho) : Option (Option Dat × Rho) := do
  let r ← bindT r tg d
  let (t, r) ← runOt W c r
  if t = true then
    let (o, r) ← run W elt r
    let (x, r) ← frz r o
    some (some x, wipeR r own)
  else some (none, wipeR r own)
theorem imp_comp {own : List Nat} {tg : Tg} {src : Src} {c : Ot} {elt : E} {σ : L2.St} {H : Hp} {Q : VK} (ho : ∀ i ∈ tgSlots tg, i ∈ own) (hp : ∀ i ∈ pro, i ∉ own)
    (h : rdE K pro (run W (.comp own tg src c elt)) σ H Q) : tLc (rdI K pro (runI W src)) (gT K tg) (rdT K pro (runOt W c)) (rdE K pro (run W elt)) own σ H Q := by
  obtain ⟨A, r, F, o, r', ok, fit, hm, q⟩ := h
  unfold run at hm
  obtain ⟨⟨ds, r1⟩, hs, hm⟩ := bindS hm
  have hm : ((compD (turnC W own tg c elt) ds (wipeR r1 own)).bind fun z => some (Out.fresh (.lst z.1), Dl.back r1 z.2 own)) = some (o, r') := hm
  obtain ⟨⟨xs, r2⟩, hc, hm⟩ := bindS hm
  cases hm
  have hpr : ∀ p ∈ A.pro, p.1 ∉ own := fun p hpp => hp _ (ok.p p hpp)
  refine ⟨A, r, F, ds, r1, ok, fit, hs, fun J F1 H1 s1 f1 jw => ?_⟩
  intro D hD
  have fD : F1 D = none := f1.sub.free hD
  obtain ⟨h0D, ioD⟩ := f1.free hD
  have f0D : A.F0 D = none := f1.f0.free fD
  have mD : ¬ Mine r1 σ D := fun m => by
    obtain ⟨_, _, u, z⟩ := f1.mine m
    rw [hD] at z
    cases z
  -- the state ahead of turn i: acc is what stands at D
  refine ⟨fun i m Hi => i + m = ds.length ∧ ∃ (ri : Rho) (Fi : Hp) (acc : List V) (ys zs : List Dat), Same F1 Fi ∧ Fit A ri Fi (wipe σ own) Hi ∧ Hi D = some (.lst acc) ∧ Fi D = none ∧ ¬ Mine ri (wipe σ own) D ∧ DenL A.K Fi ys acc ∧ acc.length ≤ i ∧
      compD (turnC W own tg c elt) (ds.drop i) ri = some (zs, r2) ∧ xs = ys ++ zs, ⟨ds.length, by omega, wipeR r1 own, F1, [], [], xs, Same.refl F1, ?_, upd_same, fD, ?_, rfl, Nat.le_refl _, by rw [List.drop_zero]; exact hc, rfl⟩, ?_⟩
  · refine (f1.toWipe hpr).grow ⟨Same.refl F1, fun b u e => ?_, same_upd hD, fun _ _ e => .inl e⟩
    exact same_upd hD b u (f1.sub b u e)
  · intro m
    obtain ⟨i, s, e1, e2, e3⟩ := m
    obtain ⟨w1, w2⟩ := wipeR_get e1
    rw [wipe_ne σ w2] at e3
    exact mD ⟨i, s, w1, e2, e3⟩
  · rintro i m Hi ⟨him, ri, Fi, acc, ys, zs, sFi, fi, hDi, fDi, mDi, dl, la, hci, rfl⟩
    by_cases hi : i < ds.length
    · refine .inr ⟨jw.go i Hi (sFi.trans fi.sub) hi, fun Hn => ∃ (rn : Rho) (Fn : Hp) (an : List V) (yn zn : List Dat), Same F1 Fn ∧ Fit A rn Fn (wipe σ own) Hn ∧ Hn D = some (.lst an) ∧ Fn D = none ∧ ¬ Mine rn (wipe σ own) D ∧ DenL A.K Fn yn an ∧ an.length ≤ i + 1 ∧
          compD (turnC W own tg c elt) (ds.drop (i + 1)) rn = some (zn, r2) ∧ ys ++ zs = yn ++ zn, ?_, ?_⟩
      · rintro Hn ⟨rn, Fn, an, yn, zn, g⟩
        exact ⟨m - 1, by omega, by omega, rn, Fn, an, yn, zn, g⟩
      · intro x Hx hy
        obtain ⟨d, hd⟩ : ∃ d, ds[i]? = some d := ⟨ds[i], List.getElem?_eq_getElem hi⟩
        rw [List.drop_eq_getElem_cons hi] at hci
        have hdi : ds[i] = d := by
          rw [List.getElem?_eq_getElem hi] at hd
          exact Option.some.inj hd
        rw [hdi] at hci
        unfold compD at hci
        obtain ⟨⟨ox, rt⟩, ht, hci⟩ := bindS hci
        obtain ⟨⟨zr, r3⟩, hr, hci⟩ := bindS hci
        cases hci
        unfold turnC at ht
        obtain ⟨rb, hb, ht⟩ := bindS ht
        obtain ⟨⟨t, rc⟩, hcd, ht⟩ := bindS ht
        dsimp only at ht
        -- the item
        obtain ⟨Fx0, nx0, dx0⟩ := jw.yld i d Hi x Hx (sFi.trans fi.sub) hd hy
        have nx : New A.K Fi Hi (fun b => match Fi b with | some u => some u | none => Fx0 b) Hx := by
          refine ⟨fun b u e => by simp only [e], fun b u e => ?_, nx0.hh, fun b u e => ?_⟩
          · cases q1 : Fi b with
            | some w =>
              simp only [q1] at e
              cases e
              exact nx0.hh _ _ (fi.sub _ _ q1)
            | none =>
              simp only [q1] at e
              exact nx0.fh _ _ e
          · cases q1 : Fi b with
            | some w =>
              simp only [q1] at e
              cases e
              exact .inl rfl
            | none =>
              simp only [q1] at e
              rcases nx0.nw b u e with z | z
              · exact absurd (sFi b u z) (by rw [q1]; exact fun w => nomatch w)
              · exact .inr z
        generalize hFx : (fun b => match Fi b with | some u => some u | none => Fx0 b) = Fx at nx
        have sx : Same Fx0 Fx := fun b u e => by
          rw [← hFx]
          cases q1 : Fi b with
          | none => simp only [q1]; exact e
          | some w =>
            simp only [q1]
            rw [← nx0.fh b u e, nx0.hh b w (fi.sub b w q1)]
        have dx := Den.mono sx d dx0
        have fx := fi.grow nx
        have hDx := nx.hh _ _ hDi
        have fDx : Fx D = none := by
          cases q1 : Fx D with
          | none => rfl
          | some u =>
            rcases nx.nw D u q1 with z | z
            · rw [fDi] at z; cases z
            · rw [hDi] at z; cases z
        -- the new list stays while the turn runs
        have gx := fx.guard hDx fDx ioD mDi
        rw [← ok.k]
        refine bind_ok (A := A.guard D (.lst acc)) gx dx hb (fun p hpp z => hpr p hpp (ho _ z)) fun σ2 hl hag f2 => ?_
        refine ⟨wipe_eq (by rw [hl, wipe_length]) fun j hj => by rw [hag j fun z => hj (ho j z), wipe_ne σ hj], ?_⟩
        have fin : ∀ (rn : Rho) (Fn Hn : Hp), Same Fx Fn → Fit (A.guard D (.lst acc)) rn Fn σ2 Hn → Fit A (wipeR rn own) Fn (wipe σ own) Hn ∧ Hn D = some (.lst acc) ∧ Fn D = none ∧ ¬ Mine (wipeR rn own) (wipe σ own) D := by
          intro rn Fn Hn sn fn
          have fw : Fit (A.guard D (.lst acc)) (wipeR rn own) Fn (wipe σ own) Hn := by
            refine fn.moved (by rw [wipeR_len, wipe_length, fn.len, hl, wipe_length]) (fun j s e => ⟨(wipeR_get e).1, ?_⟩) fun p hpp => ?_
            · have hj := (wipeR_get e).2
              rw [hag j fun z => hj (ho j z)]
            · have := fi.pro p hpp
              exact this
          exact fw.unguard h0D f0D ioD
        refine ⟨A.guard D (.lst acc), rb, Fx, t, rc, ⟨rfl, ok.p⟩, f2, hcd, fun F3 H3 s3 f3 => ?_⟩
        cases t with
        | true =>
          rw [if_pos rfl] at ht ⊢
          obtain ⟨⟨oe, re⟩, he, ht⟩ := bindS ht
          obtain ⟨⟨xe, rf⟩, hf, ht⟩ := bindS ht
          cases ht
          refine ⟨A.guard D (.lst acc), rc, F3, oe, re, ⟨rfl, ok.p⟩, f3, he, fun v4 F4 H4 s4 f4 k4 => ?_⟩
          obtain ⟨F4', s4', f4', h4⟩ := f4.frz k4 hf
          obtain ⟨w1, w2, w3, w4⟩ := fin rf F4' H4 (s3.trans (s4.trans s4')) f4'
          have sAll : Same Fi F4' := nx.ff.trans (s3.trans (s4.trans s4'))
          have hacc : acc.length < sizeLine := by
            have := jw.small
            omega
          refine ⟨acc, w2, hacc, wipeR rf own, F4', acc ++ [v4], ys ++ [xe], zr, sFi.trans sAll, ?_, upd_same, w3, w4, DenL.app (DenL.mono sAll _ dl) (DenL.one h4), by rw [List.length_append, List.length_singleton]; omega, hr, by rw [List.append_assoc]; rfl⟩
          exact w1.changed (a := D) (Same.refl F4') (fun b u e => by rw [upd_ne (fun z => by rw [z, w3] at e; cases e)]; exact w1.sub b u e) (fun b u e nb => by rw [upd_ne nb]; exact e) (fun _ _ e => .inl e) ⟨_, upd_same⟩ (.inl h0D) w4
        | false =>
          rw [if_neg Bool.false_ne_true] at ht ⊢
          cases ht
          obtain ⟨w1, w2, w3, w4⟩ := fin rc F3 H3 s3 f3
          exact ⟨wipeR rc own, F3, acc, ys, zr, sFi.trans (nx.ff.trans s3), w1, w2, w3, w4, DenL.mono (nx.ff.trans s3) _ dl, by omega, hr, rfl⟩
    · refine .inl ⟨jw.stop i Hi (sFi.trans fi.sub) (by omega), ?_⟩
      rw [List.drop_eq_nil_of_le (by omega)] at hci
      cases hci
      rw [List.append_nil] at q
      have fb := f1.back (F₁ := F1) sFi fi
      refine q (.ref D) Fi Hi (s1.trans sFi) fb ⟨D, rfl, fDi, h0D, ioD, ⟨acc, hDi, by have := jw.small; omega, dl⟩, fun mm => ?_⟩
      obtain ⟨j, s, e1, e2, e3⟩ := mm
      rcases back_get e1 with ⟨p1, p2⟩ | ⟨_, _, p3⟩
      · rw [← wipe_ne σ p2] at e3
        exact mDi ⟨j, s, p1, e2, e3⟩
      · exact e2 p3

/-! ### statements -/
theorem imp_next {D : Ends} {σ : L2.St} {H : Hp} {m : Rho → Option Fl} (hm : ∀ r, m r = some (.next r)) (h : rdS K pro m D σ H) : tNext D σ H := by
  obtain ⟨A, r, F, fl, ok, fit, h1, q⟩ := h
  rw [hm] at h1
  cases h1
  exact q σ F H (Same.refl F) fit
theorem imp_brk {n : Nat} {D : Ends} {σ : L2.St} {H : Hp} (h : rdS K pro (runS W n .brk) D σ H) : tBreak D σ H := by
  obtain ⟨A, r, F, fl, ok, fit, h1, q⟩ := h
  unfold runS at h1
  cases h1
  exact q σ F H (Same.refl F) fit
theorem imp_cont {n : Nat} {D : Ends} {σ : L2.St} {H : Hp} (h : rdS K pro (runS W n .cont) D σ H) : tCont D σ H := by
  obtain ⟨A, r, F, fl, ok, fit, h1, q⟩ := h
  unfold runS at h1
  cases h1
  exact q σ F H (Same.refl F) fit
theorem imp_retN {n : Nat} {D : Ends} {σ : L2.St} {H : Hp} (h : rdS K pro (runS W n .retN) D σ H) : tRetN D σ H := by
  obtain ⟨A, r, F, fl, ok, fit, h1, q⟩ := h
  unfold runS at h1
  cases h1
  exact q .non σ F H (Same.refl F) fit rfl
theorem imp_ret {n : Nat} {e : E} {D : Ends} {σ : L2.St} {H : Hp} (h : rdS K pro (runS W n (.ret e)) D σ H) : tRet (rdE K pro (run W e)) D σ H := by
  obtain ⟨A, r, F, fl, ok, fit, h1, q⟩ := h
  unfold runS at h1
  obtain ⟨⟨o, r1⟩, ha, h1⟩ := bindS h1
  cases h1
  exact ⟨A, r, F, o, r1, ok, fit, ha, fun v F' H' s f k => q v σ F' H' s f k⟩
theorem imp_expr {n : Nat} {e : E} {D : Ends} {σ : L2.St} {H : Hp} (h : rdS K pro (runS W n (.expr e)) D σ H) : tDrop (rdE K pro (run W e)) D σ H := by
  obtain ⟨A, r, F, fl, ok, fit, h1, q⟩ := h
  unfold runS at h1
  obtain ⟨⟨o, r1⟩, ha, h1⟩ := bindS h1
  cases h1
  exact ⟨A, r, F, o, r1, ok, fit, ha, fun v F' H' s f k => q σ F' H' s f⟩
theorem store_ok3 {A : Fr} {r r' : Rho} {F H : Hp} {σ : L2.St} {i : Nat} {o : Out} {v : V} (fit : Fit A r F σ H) (k : OutOk A r F σ H o v) (hs : store r i o = some r') (hp : ∀ p ∈ A.pro, p.1 ≠ i) : ∃ F', Same F F' ∧ Fit A r' F' (σ.set i (some v)) H := by
  cases o with
  | val d =>
    cases hs
    exact ⟨F, Same.refl F, fit.put hp k fun z => absurd rfl z⟩
  | fresh d =>
    cases hs
    obtain ⟨a, rfl, h1, h2, h3, h4, h5⟩ := k
    exact ⟨F, Same.refl F, fit.put (s := ⟨d, .own⟩) hp ⟨a, rfl, h1, h2, h3, h4⟩ fun _ b eb => by cases eb; exact h5⟩
  | place j =>
    unfold store at hs
    obtain ⟨⟨d, r1⟩, hd, hs⟩ := bindS hs
    cases hs
    obtain ⟨F', s', f', dn⟩ := fit.frz k hd
    exact ⟨F', s', f'.put hp dn fun z => absurd rfl z⟩
theorem imp_set {n : Nat} {i : Nat} {e : E} {D : Ends} {σ : L2.St} {H : Hp} (hp : i ∉ pro) (h : rdS K pro (runS W n (.set i e)) D σ H) : tAsg (rdE K pro (run W e)) (gName i) D σ H := by
  obtain ⟨A, r, F, fl, ok, fit, h1, q⟩ := h
  unfold runS at h1
  obtain ⟨⟨o, r1⟩, ha, h1⟩ := bindS h1
  obtain ⟨r2, hs, h1⟩ := bindS h1
  cases h1
  refine ⟨A, r, F, o, r1, ok, fit, ha, fun v F' H' s f k => ?_⟩
  obtain ⟨F2, s2, f2⟩ := store_ok3 f k hs fun p hpp z => hp (by rw [← z]; exact ok.p p hpp)
  exact q _ F2 H' (s.trans s2) f2
theorem imp_unp {n : Nat} {is : List Nat} {e : E} {D : Ends} {σ : L2.St} {H : Hp} (hp : ∀ i ∈ pro, i ∉ is) (h : rdS K pro (runS W n (.unp is e)) D σ H) : tAsg (rdE K pro (run W e)) (gT K (.tup is)) D σ H := by
  obtain ⟨A, r, F, fl, ok, fit, h1, q⟩ := h
  unfold runS at h1
  obtain ⟨⟨o, r1⟩, ha, h1⟩ := bindS h1
  obtain ⟨⟨d, r2⟩, hd, h1⟩ := bindS h1
  dsimp only at h1
  refine ⟨A, r, F, o, r1, ok, fit, ha, fun v F' H' s f k => ?_⟩
  obtain ⟨F2, s2, f2, dn⟩ := f.frz k hd
  cases d with
  | tup ds =>
    obtain ⟨r3, hs, h1⟩ := bindS h1
    cases h1
    rw [← ok.k]
    exact bind_ok (tg := .tup is) f2 dn hs (fun p hpp z => hp _ (ok.p p hpp) z) fun σ' _ _ f' => q σ' F2 H' (s.trans s2) f'
  | _ => cases h1
theorem imp_aug {n : Nat} {i : Nat} {k : K2} {e : E} {D : Ends} {σ : L2.St} {H : Hp} {ti : TIp} (hp : i ∉ pro)
    (hi : ∀ x y H Q, ((∃ a b, x = V.int a ∧ y = V.int b ∧ ((k = .add ∧ Q (V.int (a + b)) H) ∨ (k = .sub ∧ Q (V.int (a - b)) H))) ∨ (∃ a b, x = V.str a ∧ y = V.str b ∧ k = .add ∧ a.length + b.length ≤ sizeLine ∧ Q (V.str (a ++ b)) H)) → ti x y H Q)
    (h : rdS K pro (runS W n (.aug i k e)) D σ H) : tAug i (rdE K pro (run W e)) ti D σ H := by
  obtain ⟨A, r, F, fl, ok, fit, h1, q⟩ := h
  unfold runS at h1
  obtain ⟨s0, hs0, h1⟩ := bindS h1
  obtain ⟨⟨o, r1⟩, ha, h1⟩ := bindS h1
  dsimp only at h1
  obtain ⟨v0, ev0, _⟩ := fit.slot i s0 (look_some hs0)
  refine ⟨v0, ev0, A, r, F, o, r1, ok, fit, ha, fun v F' H' s f kk => ?_⟩
  obtain ⟨F2, s2, f2, h2⟩ := f.hold kk
  have val : ∀ {x : Dat}, look r1 i = some ⟨x, .fz⟩ → Den A.K F2 x v0 := fun {x} hl => by
    obtain ⟨w, w1, w2⟩ := f2.slot i _ (look_some hl)
    rw [ev0] at w1
    cases w1
    exact w2
  have fin : ∀ {z : Dat} {u : V}, Den A.K F2 z u → fl = .next (r1.set i (some ⟨z, .fz⟩)) → D.nx (σ.set i (some u)) H' := fun {z u} du efl => by
    subst efl
    exact q _ F2 H' (s.trans s2) (f2.put (fun p hpp z => hp (by rw [← z]; exact ok.p p hpp)) du fun z => absurd rfl z)
  split at h1
  · rename_i x y hx hy
    have e1 : v0 = .int x := val hx
    have e2 : v = .int y := Held.seen f2 h2 hy
    split at h1
    · cases h1
      exact hi _ _ _ _ (.inl ⟨x, y, e1, e2, .inl ⟨rfl, fin (z := .int (x + y)) rfl rfl⟩⟩)
    · cases h1
      exact hi _ _ _ _ (.inl ⟨x, y, e1, e2, .inr ⟨rfl, fin (z := .int (x - y)) rfl rfl⟩⟩)
    · cases h1
  · rename_i x y hx hy
    have e1 : v0 = .str x ∧ _ := val hx
    have e2 : v = .str y ∧ _ := Held.seen f2 h2 hy
    split at h1
    · split at h1
      · rename_i hz
        cases h1
        exact hi _ _ _ _ (.inr ⟨x, y, e1.1, e2.1, rfl, hz, fin (z := .str (x ++ y)) ⟨rfl, by rw [TL.len_tl, TL.tl_append, List.length_append, ← TL.len_tl, ← TL.len_tl]; exact hz⟩ rfl⟩)
      · cases h1
    · cases h1
  · cases h1
theorem FlOk.later {A : Fr} {F F' : Hp} {D : Ends} {fl : Fl} (s : Same F F') (q : FlOk A F D fl) : FlOk A F' D fl := by
  cases fl with
  | next _ => exact fun σ' F2 H2 s2 f2 => q σ' F2 H2 (s.trans s2) f2
  | brk _ => exact fun σ' F2 H2 s2 f2 => q σ' F2 H2 (s.trans s2) f2
  | cont _ => exact fun σ' F2 H2 s2 f2 => q σ' F2 H2 (s.trans s2) f2
  | ret _ _ => exact fun v σ' F2 H2 s2 f2 k2 => q v σ' F2 H2 (s.trans s2) f2 k2
theorem imp_ife {n : Nat} {t : T} {a b : Ss} {D : Ends} {σ : L2.St} {H : Hp} (h : rdS K pro (runS W n (.ife t a b)) D σ H) : tIfS (rdT K pro (runT W t)) (rdS K pro (runB W n a)) (rdS K pro (runB W n b)) D σ H := by
  obtain ⟨A, r, F, fl, ok, fit, h1, q⟩ := h
  unfold runS at h1
  obtain ⟨⟨c, r1⟩, ha, h1⟩ := bindS h1
  dsimp only at h1
  refine ⟨A, r, F, c, r1, ok, fit, ha, fun F' H' s f => ?_⟩
  cases c with
  | true => exact iteT ⟨A, r1, F', fl, ok, f, by rw [if_pos rfl] at h1; exact h1, q.later s⟩
  | false => exact iteF ⟨A, r1, F', fl, ok, f, by rw [if_neg Bool.false_ne_true] at h1; exact h1, q.later s⟩
theorem imp_bnil {n : Nat} {D : Ends} {σ : L2.St} {H : Hp} (h : rdS K pro (runB W n .nil) D σ H) : tNext D σ H := imp_next (fun r => by unfold runB; rfl) h
theorem imp_bcons {n : Nat} {s : S} {ss : Ss} {D : Ends} {σ : L2.St} {H : Hp} (h : rdS K pro (runB W n (.cons s ss)) D σ H) : tSeq (rdS K pro (runS W n s)) (rdS K pro (runB W n ss)) D σ H := by
  obtain ⟨A, r, F, fl, ok, fit, h1, q⟩ := h
  unfold runB at h1
  cases hs : runS W n s r with
  | none => rw [hs] at h1; cases h1
  | some f1 =>
    rw [hs] at h1
    refine ⟨A, r, F, f1, ok, fit, hs, ?_⟩
    cases f1 with
    | next r1 => exact fun σ' F' H' s' f' => ⟨A, r1, F', fl, ok, f', h1, q.later s'⟩
    | brk r1 => cases h1; exact q
    | cont r1 => cases h1; exact q
    | ret o r1 => cases h1; exact q
/-- for -/
theorem imp_for {n : Nat} {tg : Tg} {src : Src} {body : Ss} {wp : List Nat} {D : Ends} {σ : L2.St} {H : Hp} (hp : ∀ i ∈ pro, i ∉ tgSlots tg) (h : rdS K pro (runS W n (.for_ tg src body wp)) D σ H) :
    tFor (rdI K pro (runI W src)) (gT K tg) (rdS K pro (runB W n body)) D σ H := by
  obtain ⟨A, r, F, fl, ok, fit, hm, q⟩ := h
  unfold runS at hm
  obtain ⟨⟨ds, r1⟩, hs, hm⟩ := bindS hm
  dsimp only at hm
  refine ⟨A, r, F, ds, r1, ok, fit, hs, fun J F1 H1 s1 f1 jw => ?_⟩
  generalize hf : (fun (d : Dat) (r : Rho) => (do
      let r ← bindT r tg d
      runB W n body r : Option Fl)) = f at hm
  refine ⟨fun i m σi Hi => i + m = ds.length ∧ ∃ (ri : Rho) (Fi : Hp), Same F1 Fi ∧ Fit A ri Fi σi Hi ∧ forD f wp (ds.drop i) ri = some fl, ⟨ds.length, by omega, wipeR r1 wp, F1, Same.refl F1, f1.wiped wp, by rw [List.drop_zero]; exact hm⟩, ?_⟩
  rintro i m σi Hi ⟨him, ri, Fi, sFi, fi, hci⟩
  by_cases hi : i < ds.length
  · refine .inr ⟨jw.go i Hi (sFi.trans fi.sub) hi, fun σn Hn => ∃ (rn : Rho) (Fn : Hp), Same F1 Fn ∧ Fit A rn Fn σn Hn ∧ forD f wp (ds.drop (i + 1)) rn = some fl, ?_, ?_⟩
    · rintro σn Hn ⟨rn, Fn, g1, g2, g3⟩
      exact ⟨m - 1, by omega, by omega, rn, Fn, g1, g2, g3⟩
    · intro x Hx hy
      rw [List.drop_eq_getElem_cons hi] at hci
      have hd : ds[i]? = some ds[i] := List.getElem?_eq_getElem hi
      generalize ds[i] = d at hci hd
      obtain ⟨Fx0, nx0, dx0⟩ := jw.yld i d Hi x Hx (sFi.trans fi.sub) hd hy
      -- settle the item beside what is settled already
      obtain ⟨Fx, nx, dx⟩ : ∃ Fx, New A.K Fi Hi Fx Hx ∧ Den A.K Fx d x := by
        refine ⟨fun b => match Fi b with | some u => some u | none => Fx0 b, ⟨fun b u e => by simp only [e], fun b u e => ?_, nx0.hh, fun b u e => ?_⟩, Den.mono (fun b u e => ?_) d dx0⟩
        · cases q1 : Fi b with
          | some w =>
            simp only [q1] at e
            cases e
            exact nx0.hh _ _ (fi.sub _ _ q1)
          | none =>
            simp only [q1] at e
            exact nx0.fh _ _ e
        · cases q1 : Fi b with
          | some w =>
            simp only [q1] at e
            cases e
            exact .inl rfl
          | none =>
            simp only [q1] at e
            rcases nx0.nw b u e with z | z
            · exact absurd (sFi b u z) (by rw [q1]; exact fun w => nomatch w)
            · exact .inr z
        · cases q1 : Fi b with
          | none => simp only [q1]; exact e
          | some w =>
            simp only [q1]
            rw [← nx0.fh b u e, nx0.hh b w (fi.sub b w q1)]
      have fx := fi.grow nx
      unfold forD at hci
      cases hfd : f d ri with
      | none => rw [hfd] at hci; cases hci
      | some fl1 =>
        rw [hfd] at hci
        have hfd2 : ((bindT ri tg d).bind fun r => runB W n body r) = some fl1 := by
          rw [← hf] at hfd
          exact hfd
        obtain ⟨rb, hb, hrun⟩ := bindS hfd2
        rw [← ok.k]
        refine bind_ok fx dx hb (fun p hpp z => hp _ (ok.p p hpp) z) fun σ2 hl hag f2 => ?_
        rw [ok.k]
        refine ⟨A, rb, Fx, fl1, ok, f2, hrun, ?_⟩
        cases fl1 with
        | next r3 => exact fun σ' F' H' s' f' => ⟨wipeR r3 wp, F', sFi.trans (nx.ff.trans s'), f'.wiped wp, hci⟩
        | cont r3 => exact fun σ' F' H' s' f' => ⟨wipeR r3 wp, F', sFi.trans (nx.ff.trans s'), f'.wiped wp, hci⟩
        | brk r3 =>
          cases hci
          exact fun σ' F' H' s' f' => q σ' F' H' (s1.trans (sFi.trans (nx.ff.trans s'))) (f'.wiped wp)
        | ret o r3 =>
          cases hci
          exact fun v σ' F' H' s' f' k' => q v σ' F' H' (s1.trans (sFi.trans (nx.ff.trans s'))) f' k'
  · refine .inl ⟨jw.stop i Hi (sFi.trans fi.sub) (by omega), ?_⟩
    rw [List.drop_eq_nil_of_le (by omega)] at hci
    cases hci
    exact q σi Fi Hi (s1.trans sFi) fi
/-- while -/
theorem imp_whl {n : Nat} {t : T} {body : Ss} {wp : List Nat} {D : Ends} {σ : L2.St} {H : Hp} (h : rdS K pro (runS W n (.whl t body wp)) D σ H) :
    tWhile (rdT K pro (runT W t)) (rdS K pro (runB W n body)) D σ H := by
  obtain ⟨A, r, F, fl, ok, fit, hm, q⟩ := h
  unfold runS at hm
  refine ⟨fun m σi Hi => ∃ (ri : Rho) (Fi : Hp), Same F Fi ∧ Fit A ri Fi σi Hi ∧ whlD (runT W t) (runB W n body) wp m ri = some fl, ⟨n, wipeR r wp, F, Same.refl F, fit.wiped wp, hm⟩, ?_⟩
  rintro m σi Hi ⟨ri, Fi, sFi, fi, hw⟩
  cases m with
  | zero => cases hw
  | succ m =>
    unfold whlD at hw
    cases hc : runT W t ri with
    | none => rw [hc] at hw; cases hw
    | some cr =>
      obtain ⟨c, r1⟩ := cr
      rw [hc] at hw
      refine ⟨A, ri, Fi, c, r1, ok, fi, hc, fun F1 H1 s1 f1 => ?_⟩
      cases c with
      | true =>
        rw [if_pos rfl]
        refine ⟨fun σn Hn => ∃ (rn : Rho) (Fn : Hp), Same F Fn ∧ Fit A rn Fn σn Hn ∧ whlD (runT W t) (runB W n body) wp m rn = some fl, fun σn Hn g => ⟨m, Nat.lt_succ_self m, g⟩, ?_⟩
        dsimp only at hw
        cases hb : runB W n body r1 with
        | none => rw [hb] at hw; cases hw
        | some fl1 =>
          rw [hb] at hw
          refine ⟨A, r1, F1, fl1, ok, f1, hb, ?_⟩
          cases fl1 with
          | next r3 => exact fun σ' F' H' s' f' => ⟨wipeR r3 wp, F', sFi.trans (s1.trans s'), f'.wiped wp, hw⟩
          | cont r3 => exact fun σ' F' H' s' f' => ⟨wipeR r3 wp, F', sFi.trans (s1.trans s'), f'.wiped wp, hw⟩
          | brk r3 =>
            cases hw
            exact fun σ' F' H' s' f' => q σ' F' H' (sFi.trans (s1.trans s')) (f'.wiped wp)
          | ret o r3 =>
            cases hw
            exact fun v σ' F' H' s' f' k' => q v σ' F' H' (sFi.trans (s1.trans s')) f' k'
      | false =>
        rw [if_neg Bool.false_ne_true]
        cases hw
        exact q σi F1 H1 (sFi.trans s1) (f1.wiped wp)
end
end Dl

/-! D6b: dict displays, setdefault, insert, extend, pop(), steps. -/
namespace Dl
open PySem PySem.Spec PyProof.Rows L2
section
variable {K : Kw} {pro : List Nat} {W : Wd}
/-- the readings of a display's pairs -/
def tprs (K : Kw) (pro : List Nat) (W : Wd) : Es → List (TE × TE)
  | .cons k (.cons v es) => (rdE K pro (run W k), rdE K pro (run W v)) :: tprs K pro W es
  | _ => []
def evenE : Es → Bool
  | .nil => true
  | .cons _ (.cons _ es) => evenE es
  | _ => false
theorem Den2.mono {F F' : Hp} (s : Same F F') : ∀ {ds : List Dat} {ps : List (V × V)}, Den2 K F ds ps → Den2 K F' ds ps
  | [], _, h => h
  | [_], _, h => h
  | k :: v :: r, _, ⟨x, y, qs, e, h1, h2, h3⟩ => ⟨x, y, qs, e, Den.mono s k h1, Den.mono s v h2, Den2.mono s h3⟩
theorem imp_pairs : ∀ (es : Es) {A : Fr} {r : Rho} {F : Hp} {ds : List Dat} {r' : Rho} {σ : L2.St} {H : Hp} {Q : List (V × V) → Hp → Prop}, evenE es = true → Ok K pro A → Fit A r F σ H → runL W es r = some (ds, r') →
    (∀ ps F' H', Same F F' → Fit A r' F' σ H' → Den2 A.K F' ds ps → Q ps H') → tPairs (tprs K pro W es) σ H Q
  | .nil, A, r, F, ds, r', σ, H, Q, _, ok, fit, hm, q => by
    unfold runL at hm
    cases hm
    exact q [] F H (Same.refl F) fit rfl
  | .cons k .nil, A, r, F, ds, r', σ, H, Q, he, ok, fit, hm, q => by cases he
  | .cons k (.cons v es), A, r, F, ds, r', σ, H, Q, he, ok, fit, hm, q => by
    unfold runL at hm
    obtain ⟨⟨oa, r1⟩, ha, hm⟩ := bindS hm
    obtain ⟨⟨d1, r2⟩, hd1, hm⟩ := bindS hm
    obtain ⟨⟨ds1, r3⟩, hm1, hm⟩ := bindS hm
    cases hm
    unfold runL at hm1
    obtain ⟨⟨ob, r4⟩, hb, hm1⟩ := bindS hm1
    obtain ⟨⟨d2, r5⟩, hd2, hm1⟩ := bindS hm1
    obtain ⟨⟨ds2, r6⟩, hm2, hm1⟩ := bindS hm1
    cases hm1
    refine ⟨A, r, F, oa, r1, ok, fit, ha, fun x F1 H1 s1 f1 k1 => ?_⟩
    obtain ⟨F1', s1', f1', h1⟩ := f1.frz k1 hd1
    refine ⟨A, r2, F1', ob, r4, ok, f1', hb, fun y F2 H2 s2 f2 k2 => ?_⟩
    obtain ⟨F2', s2', f2', h2⟩ := f2.frz k2 hd2
    exact imp_pairs es he ok f2' hm2 fun ps F3 H3 s3 f3 d3 => q _ F3 H3 (((s1.trans s1').trans (s2.trans s2')).trans s3) f3 ⟨x, y, ps, rfl, Den.mono ((s2.trans s2').trans s3) _ h1, Den.mono s3 _ h2, d3⟩
theorem imp_dct {es : Es} {σ : L2.St} {H : Hp} {Q : VK} (he : evenE es = true) (h : rdE K pro (run W (.dct es)) σ H Q) : tDspD K (tprs K pro W es) σ H Q := by
  obtain ⟨A, r, F, o, r', ok, fit, hm, q⟩ := h
  unfold run at hm
  obtain ⟨⟨ds, r1⟩, ha, hm⟩ := bindS hm
  obtain ⟨d, hd, hm⟩ := bindS hm
  cases hm
  intro p hp
  have fp : F p = none := fit.sub.free hp
  obtain ⟨h0, io⟩ := fit.free hp
  have f0 : A.F0 p = none := fit.f0.free fp
  have nm : ¬ Mine r σ p := fun m => by
    obtain ⟨_, _, u, z⟩ := fit.mine m
    rw [hp] at z
    cases z
  have g1 : Fit A r F σ (upd H p (.dK [])) := fit.grow ⟨Same.refl F, fun b u e => same_upd hp b u (fit.sub b u e), same_upd hp, fun _ _ e => .inl e⟩
  have g2 := g1.guard upd_same fp io nm
  refine imp_pairs es he (ok.guard p (.dK [])) g2 ha fun ps F2 H2 s2 f2 d2 => ?_
  obtain ⟨u1, u2, u3, u4⟩ := f2.unguard h0 f0 io
  refine ⟨u2, F2, ds, d, u1.sub, u3, by rw [← ok.k]; exact d2, hd, fun H3 hu ow => ?_⟩
  obtain ⟨u, rfl⟩ := hu
  rw [← ok.k] at ow
  have f3 : Fit A r' F2 σ (upd H2 p u) := u1.changed (a := p) (Same.refl F2) (fun b o e => by
    rw [upd_ne (fun z => by subst z; rw [u3] at e; cases e)]
    exact u1.sub b o e) (fun b o e hb => by rw [upd_ne hb]; exact e) (fun _ _ e => .inl e) ⟨u, upd_same⟩ (.inl h0) u4
  exact q _ F2 _ s2 f3 ⟨p, rfl, u3, h0, io, ow, u4⟩
theorem imp_dnew {σ : L2.St} {H : Hp} {Q : VK} (h : rdE K pro (run W (.dct .nil)) σ H Q) : tDNewK σ H Q := by
  obtain ⟨A, r, F, o, r', ok, fit, hm, q⟩ := h
  unfold run at hm
  obtain ⟨⟨ds, r1⟩, ha, hm⟩ := bindS hm
  obtain ⟨d, hd, hm⟩ := bindS hm
  cases hm
  unfold runL at ha
  cases ha
  cases hd
  intro p hp
  obtain ⟨F3, s3, f3, k3⟩ := fit.made (v := .ref p) (o := .fresh (.dct [] [])) (H' := upd H p (.dK [])) ⟨p, ⟨Same.refl F, fun b u e => same_upd hp b u (fit.sub b u e), same_upd hp, fun _ _ e => .inl e⟩, rfl, hp, .dK [], [], [], upd_same, ⟨Nat.zero_le _, .inl ⟨[], rfl, rfl, rfl⟩⟩, DenL.nil, DenL.nil⟩
  exact q _ F3 _ s3 f3 k3
theorem dct_of {d : Dat} (h : isDct d = true) : ∃ ks vs, d = .dct ks vs := by
  cases d with
  | dct ks vs => exact ⟨ks, vs, rfl⟩
  | _ => cases h
theorem getV_none {k : Dat} : ∀ {ks vs : List Dat}, vs.length = ks.length → getV k ks vs = none → hasK k ks = false
  | [], vs, _, _ => rfl
  | x :: ks, [], h, _ => by cases h
  | x :: ks, v :: vs, h, g => by
    unfold getV at g
    by_cases e : eqK x k = true
    · rw [if_pos e] at g; cases g
    · rw [if_neg e] at g
      unfold hasK
      rw [List.any_cons]
      have := getV_none (by simpa using h) g
      unfold hasK at this
      rw [this]
      simpa using e
/-- d.setdefault(k, x) -/
theorem imp_setd {i : Nat} {a b : E} {σ : L2.St} {H : Hp} {Q : VK} (h : rdE K pro (run W (.setd i a b)) σ H Q) :
    tBMD K (rSetd K) (tVar i) (tCons (rdE K pro (run W a)) (tCons (rdE K pro (run W b)) tNil)) σ H Q := by
  obtain ⟨A, r, F, o, r', ok, fit, hm, q⟩ := h
  unfold run at hm
  obtain ⟨s, hs, hm⟩ := bindS hm
  dsimp only at hm
  split at hm
  · rename_i hl
    obtain ⟨⟨oa, r1⟩, ha, hm⟩ := bindS hm
    obtain ⟨⟨x, r2⟩, hd, hm⟩ := bindS hm
    obtain ⟨⟨ob, r3⟩, hb, hm⟩ := bindS hm
    obtain ⟨⟨y, r4⟩, hd2, hm⟩ := bindS hm
    obtain ⟨v, ev, _⟩ := fit.slot i s (look_some hs)
    obtain ⟨ks0, vs0, hsd⟩ := dct_of hl
    have g0 := fit.seen (look_some hs) ev
    rw [hsd, ok.k] at g0
    refine ⟨v, ev, ⟨F, ks0, vs0, g0⟩, A, r, F, oa, r1, ok, fit, ha, fun v1 F1 H1 s1 f1 k1 => ?_⟩
    obtain ⟨F1', s1', f1', h1⟩ := f1.frz k1 hd
    refine ⟨A, r2, F1', ob, r3, ok, f1', hb, fun v2 F2 H2 s2 f2 k2 => ?_⟩
    obtain ⟨F2', s2', f2', h2⟩ := f2.frz k2 hd2
    have hx := Den.mono (s2.trans s2') _ h1
    have sF := (s1.trans s1').trans (s2.trans s2')
    have fin : ∀ (ks vs : List Dat) (m : Mu), m ≠ .fz → look r4 i = some ⟨.dct ks vs, m⟩ → okey ks x = true → ks.length < sizeLine → vs.length = ks.length → (match getV x ks vs with
          | some e => some (Out.val e, r4)
          | none => some (Out.val y, r4.set i (some ⟨putD x y ks vs, m⟩))) = some (o, r') → rSetd K v [v1, v2] H2 Q := by
      intro ks vs m mz hi hok hl2 hlv hm
      have hi' := look_some hi
      obtain ⟨w, w1, w2⟩ := f2'.slot i _ hi'
      rw [ev] at w1
      cases w1
      obtain ⟨c, rfl⟩ := w2.ref mz
      obtain ⟨m1, m2, m3⟩ := w2.mine mz
      rw [ok.k] at hx h2
      refine ⟨c, v1, v2, F2', ks, vs, x, y, rfl, rfl, f2'.sub, by rw [← ok.k]; exact Seen.own m3, okey_seen hok hx, hok, h2, hl2, hlv, fun e he z dz => ?_, fun hn H' pt => ?_⟩
      · rw [he] at hm
        cases hm
        exact q z F2' H2 sF f2' (by rw [← ok.k] at dz; exact dz)
      · have hg : getV x ks vs = none := by
          cases hg : getV x ks vs with
          | none => rfl
          | some e =>
            exfalso
            clear hm
            have : ∀ {ks vs : List Dat}, getV x ks vs = some e → hasK x ks = true := by
              intro ks
              induction ks with
              | nil => intro vs h; unfold getV at h; cases h
              | cons k ks ih =>
                intro vs h
                cases vs with
                | nil => unfold getV at h; cases h
                | cons u vs =>
                  unfold getV at h
                  unfold hasK
                  rw [List.any_cons]
                  by_cases eq : eqK k x = true
                  · rw [eq]; rfl
                  · rw [if_neg eq] at h
                    have := ih h
                    unfold hasK at this
                    rw [this, Bool.or_true]
            rw [this hg] at hn
            cases hn
        rw [hg] at hm
        cases hm
        obtain ⟨u, rfl, ow⟩ := pt
        rw [← ok.k] at ow
        exact q v2 F2' _ sF (f2'.rewriteO hi' mz ev ow) (by rw [← ok.k] at h2; exact h2)
    dsimp only at hm
    split at hm
    · rename_i ks vs hi
      split at hm
      · rename_i hc
        exact fin ks vs .own (by decide) hi hc.1 hc.2.1 hc.2.2 hm
      · cases hm
    · rename_i ks vs hi
      split at hm
      · rename_i hc
        exact fin ks vs .io (by decide) hi hc.1 hc.2.1 hc.2.2 hm
      · cases hm
    · cases hm
  · cases hm
def rIns : V → List V → Hp → VK → Prop := fun x vs H Q => ∃ (l : Addr) (xs : List V) (i : Int) (y : V), x = .ref l ∧ vs = [.int i, y] ∧ H l = some (.lst xs) ∧ xs.length < sizeLine ∧ 0 ≤ i ∧ i < 2 ^ 63 ∧ Q .non (upd H l (.lst (xs.take i.toNat ++ [y] ++ xs.drop i.toNat)))
/-- xs.insert(k, x) -/
theorem imp_ins {i : Nat} {a b : E} {σ : L2.St} {H : Hp} {Q : VK} (h : rdE K pro (run W (.ins i a b)) σ H Q) :
    tBM K "list" rIns (tVar i) (tCons (rdE K pro (run W a)) (tCons (rdE K pro (run W b)) tNil)) σ H Q := by
  obtain ⟨A, r, F, o, r', ok, fit, hm, q⟩ := h
  unfold run at hm
  obtain ⟨s, hs, hm⟩ := bindS hm
  dsimp only at hm
  split at hm
  · rename_i hl
    obtain ⟨⟨oa, r1⟩, ha, hm⟩ := bindS hm
    obtain ⟨⟨k, r2⟩, hd, hm⟩ := bindS hm
    obtain ⟨⟨ob, r3⟩, hb, hm⟩ := bindS hm
    obtain ⟨⟨x, r4⟩, hd2, hm⟩ := bindS hm
    obtain ⟨v, ev, _⟩ := fit.slot i s (look_some hs)
    refine ⟨v, ev, fit.tyL hs ev hl ok.k, A, r, F, oa, r1, ok, fit, ha, fun v1 F1 H1 s1 f1 k1 => ?_⟩
    obtain ⟨F1', s1', f1', h1⟩ := f1.frz k1 hd
    refine ⟨A, r2, F1', ob, r3, ok, f1', hb, fun v2 F2 H2 s2 f2 k2 => ?_⟩
    obtain ⟨F2', s2', f2', h2⟩ := f2.frz k2 hd2
    have sF := (s1.trans s1').trans (s2.trans s2')
    have fin : ∀ (ds : List Dat) (m : Mu) (j : Int), m ≠ .fz → look r4 i = some ⟨.lst ds, m⟩ → k = .int j → ds.length < sizeLine → 0 ≤ j → j < 2 ^ 63 → o = .val .non → r' = r4.set i (some ⟨.lst (ds.take j.toNat ++ [x] ++ ds.drop j.toNat), m⟩) → rIns v [v1, v2] H2 Q := by
      rintro ds m j mz hi rfl hj j0 j1 rfl rfl
      have hi' := look_some hi
      obtain ⟨w, w1, w2⟩ := f2'.slot i _ hi'
      rw [ev] at w1
      cases w1
      obtain ⟨b, rfl⟩ := w2.ref mz
      obtain ⟨m1, m2, xs, m3, m4, m5⟩ := w2.mine mz
      have hlen := DenL.length m5
      refine ⟨b, xs, j, v2, rfl, by rw [show v1 = V.int j from h1], m3, by omega, j0, j1, ?_⟩
      have fr := f2'.rewrite (xs := xs.take j.toNat ++ [v2] ++ xs.drop j.toNat) hi' mz ev (by rw [List.length_append, List.length_append, List.length_take, List.length_drop, List.length_singleton]; omega) (DenL.app (DenL.app (DenL.take _ m5) (DenL.one h2)) (DenL.drop _ m5))
      exact q .non F2' _ sF fr rfl
    dsimp only at hm
    split at hm
    · rename_i ds j hi _ _
      split at hm
      · rename_i hz
        cases hm
        exact fin ds .own j (by decide) hi rfl hz.1 hz.2.1 hz.2.2 rfl rfl
      · cases hm
    · rename_i ds j hi _ _
      split at hm
      · rename_i hz
        cases hm
        exact fin ds .io j (by decide) hi rfl hz.1 hz.2.1 hz.2.2 rfl rfl
      · cases hm
    · cases hm
  · cases hm
/-- xs.extend(ys), ys new -/
theorem imp_ext {i : Nat} {a : E} {σ : L2.St} {H : Hp} {Q : VK} (h : rdE K pro (run W (.ext i a)) σ H Q) :
    tBM K "list" rExtend (tVar i) (tCons (rdE K pro (run W a)) tNil) σ H Q := by
  obtain ⟨A, r, F, o, r', ok, fit, hm, q⟩ := h
  unfold run at hm
  obtain ⟨s, hs, hm⟩ := bindS hm
  dsimp only at hm
  split at hm
  · rename_i hl
    obtain ⟨⟨oa, r1⟩, ha, hm⟩ := bindS hm
    obtain ⟨v, ev, _⟩ := fit.slot i s (look_some hs)
    refine ⟨v, ev, fit.tyL hs ev hl ok.k, A, r, F, oa, r1, ok, fit, ha, fun v1 F1 H1 s1 f1 k1 => ?_⟩
    have fin : ∀ (ds es : List Dat) (m : Mu), m ≠ .fz → look r1 i = some ⟨.lst ds, m⟩ → oa = .fresh (.lst es) → ds.length + es.length ≤ sizeLine → o = .val .non → r' = r1.set i (some ⟨.lst (ds ++ es), m⟩) → rExtend v [v1] H1 Q := by
      rintro ds es m mz hi rfl hj rfl rfl
      have hi' := look_some hi
      obtain ⟨w, w1, w2⟩ := f1.slot i _ hi'
      rw [ev] at w1
      cases w1
      obtain ⟨b, rfl⟩ := w2.ref mz
      obtain ⟨m1, m2, xs, m3, m4, m5⟩ := w2.mine mz
      obtain ⟨c, rfl, n1, n2, n3, ⟨zs, z1, z2, z3⟩, n5⟩ := k1
      have hlen := DenL.length m5
      have hlen2 := DenL.length z3
      refine ⟨b, c, xs, zs, rfl, rfl, m3, z1, by omega, ?_⟩
      have fr := f1.rewrite (xs := xs ++ zs) hi' mz ev (by rw [List.length_append]; omega) (DenL.app m5 z3)
      exact q .non F1 _ s1 fr rfl
    dsimp only at hm
    split at hm
    · rename_i ds es hi
      split at hm
      · rename_i hz
        cases hm
        exact fin ds es .own (by decide) hi rfl hz rfl rfl
      · cases hm
    · rename_i ds es hi
      split at hm
      · rename_i hz
        cases hm
        exact fin ds es .io (by decide) hi rfl hz rfl rfl
      · cases hm
    · cases hm
  · cases hm
/-- xs.pop() -/
theorem imp_pop0 {i : Nat} {σ : L2.St} {H : Hp} {Q : VK} (h : rdE K pro (run W (.pop0 i)) σ H Q) : tBM0 K "list" rPop (tVar i) σ H Q := by
  obtain ⟨A, r, F, o, r', ok, fit, hm, q⟩ := h
  unfold run at hm
  obtain ⟨s, hs, hm⟩ := bindS hm
  obtain ⟨v, ev, _⟩ := fit.slot i s (look_some hs)
  have fin : ∀ (ds : List Dat) (m : Mu) (x : Dat), m ≠ .fz → s = ⟨.lst ds, m⟩ → ds[ds.length - 1]? = some x → o = .val x → r' = r.set i (some ⟨.lst ds.dropLast, m⟩) → tBM0 K "list" rPop (tVar i) σ H Q := by
    rintro ds m x mz rfl hx rfl rfl
    have hi' := look_some hs
    refine ⟨v, ev, fit.tyL hs ev rfl ok.k, ?_⟩
    obtain ⟨w, w1, w2⟩ := fit.slot i _ hi'
    rw [ev] at w1
    cases w1
    obtain ⟨b, rfl⟩ := w2.ref mz
    obtain ⟨m1, m2, xs, m3, m4, m5⟩ := w2.mine mz
    have hlen := DenL.length m5
    rw [hlen] at hx
    obtain ⟨y, hy, dy⟩ := DenL.getD m5 hx
    refine ⟨b, xs, y, rfl, rfl, m3, hy, ?_⟩
    have e1 : ds.dropLast = ds.take (ds.length - 1) := List.dropLast_eq_take
    have e2 : xs.dropLast = xs.take (ds.length - 1) := by rw [List.dropLast_eq_take, hlen]
    have fr := fit.rewrite (xs := xs.dropLast) (ds := ds.dropLast) hi' mz ev (by rw [List.length_dropLast]; omega) (by rw [e1, e2]; exact DenL.take _ m5)
    exact q y F _ (Same.refl F) fr dy
  split at hm
  · obtain ⟨x, hx, hm⟩ := bindS hm
    cases hm
    exact fin _ .own x (by decide) rfl hx rfl rfl
  · obtain ⟨x, hx, hm⟩ := bindS hm
    cases hm
    exact fin _ .io x (by decide) rfl hx rfl rfl
  · cases hm
/-- x[lo::st] -/
theorem imp_step {a b : E} {lo : Oe} {σ : L2.St} {H : Hp} {Q : VK} (h : rdE K pro (run W (.step a lo b)) σ H Q) :
    tStp K (rdE K pro (run W a)) (rdO K pro (runO W lo)) (rdE K pro (run W b)) σ H Q := by
  obtain ⟨A, r, F, o, r', ok, fit, hm, q⟩ := h
  unfold run at hm
  obtain ⟨⟨oa, r1⟩, ha, hm⟩ := bindS hm
  obtain ⟨⟨l, r2⟩, hl, hm⟩ := bindS hm
  obtain ⟨⟨ob, r3⟩, hb, hm⟩ := bindS hm
  obtain ⟨d, hd, hm⟩ := bindS hm
  split at hm
  · rename_i k hk
    obtain ⟨o3, ho, hm⟩ := bindS hm
    cases hm
    refine ⟨A, r, F, oa, _, ok, fit, ha, fun v1 F1 H1 s1 f1 k1 => ?_⟩
    obtain ⟨F1', s1', f1', h1⟩ := f1.hold k1
    refine ⟨A, r1, F1', l, _, ok, f1', hl, fun F2 H2 s2 f2 => ?_⟩
    refine ⟨A, r2, F2, ob, _, ok, f2, hb, fun v3 F3 H3 s3 f3 k3 => ?_⟩
    obtain ⟨F3', s3', f3', h3⟩ := f3.hold k3
    have g1 := Held.seen f3' (h1.mono ((s2.trans s3).trans s3')) hd
    have g3 := Held.seen f3' h3 hk
    rw [ok.k] at g1
    refine ⟨k, g3, F3', d, _, f3'.sub, g1, ho, fun v H' nw => ?_⟩
    rw [← ok.k] at nw
    obtain ⟨F4, s4, f4, k4⟩ := f3'.made nw
    exact q v F4 H' ((((s1.trans s1').trans (s2.trans s3)).trans s3').trans s4) f4 k4
  · cases hm
/-- f() -/
theorem imp_call0 {f : Str} {np : Nat} {σ : L2.St} {H : Hp} {Q : VK} (hio : W.io f = some none) (hnp : ∀ ds x, W.phi f ds = some x → ds.length = np)
    (h : rdE K pro (run W (.call0 f)) σ H Q) : tCall (spD K none np (W.phi f)) [] E0 tNil σ H Q := by
  obtain ⟨A, r, F, o, r', ok, fit, hm, q⟩ := h
  unfold run at hm
  obtain ⟨io', hi, hm⟩ := bindS hm
  rw [hio] at hi
  cases hi
  rw [if_pos rfl] at hm
  obtain ⟨⟨o2, d⟩, hp, hm⟩ := bindS hm
  cases hm
  show spD K none np (W.phi f) ([] ++ []) H Q E0
  rw [List.append_nil, ← ok.k]
  have hl := hnp [] _ hp
  refine ⟨F, [], o, d, hp, ⟨fit.sub, hl, hl, fun i x v hx hv _ => by simp at hx, fun _ _ _ _ _ z => nomatch z⟩, fun v F' H' po => ?_⟩
  have nio : ∀ b, ¬ IoA none [] b := fun b z => by obtain ⟨i, e, _⟩ := z; cases e
  have nw : New A.K F H F' H' := ⟨po.ff, po.fh, fun b u e => po.keep b u e (nio b), po.newf⟩
  exact q v F' H' po.ff (fit.grow nw) (back_res fit po.res fun _ m => m)
/-! ### a look at everything, that changes nothing -/
theorem settle_slots {A : Fr} {F H : Hp} {σ : L2.St} : ∀ (r : Rho), (∀ (i : Nat) (s : Sl), r[i]? = some (some s) → ∃ v, σ[i]? = some (some v) ∧ SlotOk A F H s v) → ∀ (m : Nat), m ≤ r.length → Same F H → ∃ G, Same F G ∧ Same G H ∧ ∀ (i : Nat) (s : Sl), i < m → r[i]? = some (some s) → ∃ v, σ[i]? = some (some v) ∧ Den A.K G s.d v
  | r, hs, 0, _, sm => ⟨F, Same.refl F, sm, fun i s hi => absurd hi (Nat.not_lt_zero _)⟩
  | r, hs, m + 1, hm, sm => by
    obtain ⟨G, g1, g2, g3⟩ := settle_slots r hs m (by omega) sm
    cases hr : r[m]? with
    | none =>
      rw [List.getElem?_eq_none_iff] at hr
      omega
    | some o =>
      cases o with
      | none =>
        refine ⟨G, g1, g2, fun i s hi e => ?_⟩
        rcases Nat.lt_succ_iff_lt_or_eq.mp hi with hi | rfl
        · exact g3 i s hi e
        · rw [hr] at e; cases e
      | some t =>
        obtain ⟨v, e1, e2⟩ := hs m t hr
        by_cases hz : t.m = .fz
        · refine ⟨G, g1, g2, fun i s hi e => ?_⟩
          rcases Nat.lt_succ_iff_lt_or_eq.mp hi with hi | rfl
          · exact g3 i s hi e
          · rw [hr] at e
            cases e
            unfold SlotOk at e2
            rw [hz] at e2
            exact ⟨v, e1, Den.mono g1 _ e2⟩
        · obtain ⟨a, rfl⟩ := e2.ref hz
          obtain ⟨_, _, m3⟩ := e2.mine hz
          obtain ⟨G', t1, t2, t3⟩ := settle_in g1 g2 m3
          refine ⟨G', g1.trans t1, t2, fun i s hi e => ?_⟩
          rcases Nat.lt_succ_iff_lt_or_eq.mp hi with hi | rfl
          · obtain ⟨u, u1, u2⟩ := g3 i s hi e
            exact ⟨u, u1, Den.mono t1 _ u2⟩
          · rw [hr] at e
            cases e
            exact ⟨_, e1, t3⟩
theorem denL_flat {F G : Hp} : ∀ {ds : List Dat} {xs : List V}, ds.all flatD = true → DenL K F ds xs → DenL K G ds xs
  | [], _, _, h => h
  | d :: ds, _, f, ⟨v, vs, e, h, t⟩ => by
    rw [List.all_cons, Bool.and_eq_true] at f
    exact ⟨v, vs, e, flat_den f.1 h, denL_flat f.2 t⟩
theorem fzAll_get {r : Rho} {i : Nat} {s : Sl} (h : (fzAll r)[i]? = some (some s)) : ∃ t, r[i]? = some (some t) ∧ s = ⟨t.d, .fz⟩ := by
  unfold fzAll at h
  rw [List.getElem?_map] at h
  cases hr : r[i]? with
  | none => rw [hr] at h; cases h
  | some o =>
    cases o with
    | none => rw [hr] at h; cases h
    | some t =>
      rw [hr] at h
      exact ⟨t, rfl, (Option.some.inj (Option.some.inj h)).symm⟩
theorem imp_bor {e : E} {σ : L2.St} {H : Hp} {Q : VK} (h : rdE K pro (run W (.bor e)) σ H Q) : rdE K pro (run W e) σ H Q := by
  obtain ⟨A, r, F, o, r', ok, fit, hm, q⟩ := h
  unfold run at hm
  obtain ⟨⟨o1, r1⟩, ha, hm⟩ := bindS hm
  obtain ⟨G, g1, g2, g3⟩ := settle_slots (A := A) r fit.slot r.length (Nat.le_refl _) fit.sub
  have ft : Fit ⟨A.K, H, G, fun _ => False, A.pro⟩ (fzAll r) G σ H := by
    refine ⟨g2, fun b o e _ => e, fun b o e => .inl e, Same.refl G, fun b z => z.elim, fun i s e => ?_, fun i j s t a n e1 m1 => ?_, fit.pro, by unfold fzAll; rw [List.length_map]; exact fit.len⟩
    · obtain ⟨t, ht, rfl⟩ := fzAll_get e
      obtain ⟨v, v1, v2⟩ := g3 i t (List.getElem?_eq_some_iff.mp ht).1 ht
      exact ⟨v, v1, v2⟩
    · obtain ⟨t, ht, rfl⟩ := fzAll_get e1
      exact absurd rfl m1
  refine ⟨⟨A.K, H, G, fun _ => False, A.pro⟩, fzAll r, G, o1, r1, ⟨ok.k, ok.p⟩, ft, ha, fun v F' H' s' f' k' => ?_⟩
  have hh : Same H H' := fun b u e => f'.keep b u e (fun z => z)
  have gr : Fit A r F σ H' := fit.grow ⟨Same.refl F, fit.sub.trans hh, hh, fun _ _ z => .inl z⟩
  dsimp only at hm
  split at hm
  · rename_i xs
    split at hm
    · rename_i fl
      cases hm
      obtain ⟨a, rfl, a1, a2, a3, ⟨ws, b1, b2, b3⟩, a5⟩ := k'
      have hn : H a = none := a2
      refine q _ F H' (Same.refl F) gr ⟨a, rfl, fit.sub.free hn, (fit.free hn).1, (fit.free hn).2, ⟨ws, b1, b2, denL_flat fl b3⟩, fun m => ?_⟩
      obtain ⟨_, _, u, z⟩ := fit.mine m
      rw [hn] at z
      cases z
    · cases hm
  · rename_i d
    split at hm
    · rename_i fl
      cases hm
      exact q _ F H' (Same.refl F) gr (flat_den fl k')
    · cases hm
  · cases hm
theorem jw_rangeC {F : Hp} {lo c : Int} {n : Nat} (l : n ≤ sizeLine) : JW K F (Itc lo c n) (rangeC lo c n) where
  small := by
    unfold rangeC
    rw [List.length_map, List.length_range]
    exact l
  go := fun i H s hi => by
    unfold rangeC at hi
    rw [List.length_map, List.length_range] at hi
    exact hi
  yld := fun i d H v H' s hd y => by
    obtain ⟨e, rfl⟩ := y
    subst e
    unfold rangeC at hd
    rw [List.getElem?_map] at hd
    cases hr : (List.range n)[i]? with
    | none => rw [hr] at hd; cases hd
    | some k =>
      rw [hr] at hd
      cases hd
      obtain ⟨h1, h2⟩ := List.getElem?_eq_some_iff.mp hr
      rw [List.getElem_range] at h2
      subst h2
      exact ⟨F, New.refl s, rfl⟩
  stop := fun i H s hi => by
    unfold rangeC at hi
    rw [List.length_map, List.length_range] at hi
    exact Nat.le_of_eq hi
theorem imp_rng3 {es : Es} {σ : L2.St} {H : Hp} {R : It → Hp → Prop} (h : rdI K pro (runI W (.rng3 es)) σ H R) : iRng3 (rdL K pro (runL W es)) σ H R := by
  obtain ⟨A, r, F, ds, r', ok, fit, hm, q⟩ := h
  unfold runI at hm
  obtain ⟨⟨es', r1⟩, ha, hm⟩ := bindS hm
  dsimp only at hm
  split at hm
  · rename_i i j c
    obtain ⟨n, hn, hm⟩ := bindS hm
    cases hm
    unfold rngN at hn
    split at hn
    · rename_i hz
      cases hn
      refine ⟨A, r, F, _, r', ok, fit, ha, fun vs F1 H1 s1 f1 k1 => ?_⟩
      obtain ⟨v1, w1, rfl, d1, k1⟩ := k1
      obtain ⟨v2, w2, rfl, d2, k1⟩ := k1
      obtain ⟨v3, w3, rfl, d3, k1⟩ := k1
      cases k1
      cases d1
      cases d2
      cases d3
      exact ⟨i, j, c, _, rfl, ⟨hz.1, hz.2.1, hz.2.2.1, by rw [Int.toNat_of_nonneg hz.2.2.2.2]⟩, q _ F1 H1 s1 f1 (jw_rangeC hz.2.2.2.1)⟩
    · cases hn
  · cases hm
end
end Dl

/-! D7: which text a term of the small language stands for, and that the text then does what the term says. -/
namespace Dl
open PySem PySem.Spec PyProof.Rows L2

structure Sx where
  N : List Str
  sc : Scope
  raw : Scope
  pro : List Nat
  T : List (Str × Df)

def visB (sc : Scope) (x : Str) : Bool := match sc.names.lookup x with
  | some .local => true
  | some .cell => true
  | some .free => true
  | _ => false
def glB (sc : Scope) (x : Str) : Bool := match sc.names.lookup x with
  | some .globalImplicit => true
  | _ => false
def stB (sc : Scope) (x : Str) : Bool := match sc.names.lookup x with
  | some .local => true
  | some .cell => true
  | _ => false
/-- no starred one, no slice, no set display, no bare call -/
def plain : Expr → Bool
  | .Starred .. => false
  | .Slice .. => false
  | .Set .. => false
  | .Call (.Name _ _) [] [] _ => false
  | _ => true
/-- its truth is that of its value -/
def truB : Expr → Bool
  | .UnaryOp .Not _ _ => false
  | .BoolOp .. => false
  | .IfExp .. => false
  | .Compare .. => false
  | _ => true
def noComp : Expr → Bool
  | .ListComp .. => false
  | .SetComp .. => false
  | .DictComp .. => false
  | _ => true
def isComp : E → Bool
  | .comp .. => true
  | _ => false
def isTupE : Expr → Bool
  | .Tuple .. => true
  | _ => false
def noTup : Expr → Bool
  | .Tuple .. => false
  | _ => true
def chkN (Z : Sx) (i : Nat) (x : Str) : Bool := decide (Z.N[i]? = some x)
def varB (Z : Sx) (i : Nat) (x : Str) : Bool := chkN Z i x && visB Z.sc x && !(x == ("__debug__" : Str)) && !(x == ("__classdict__" : Str))
def glob1 (Z : Sx) (x y : Str) : Bool := decide (x = y) && glB Z.sc y

def shape1 (Z : Sx) : K1 → Expr → Option Expr
  | .len, .Call (.Name x _) [a] [] _ => if glob1 Z x "len" then some a else none
  | .int, .Call (.Name x _) [a] [] _ => if glob1 Z x "int" then some a else none
  | .lrg, .Call (.Name x _) [.Call (.Name y _) [a] [] _] [] _ => if glob1 Z x "list" && glob1 Z y "range" then some a else none
  | .list, .Call (.Name x _) [a] [] _ => if glob1 Z x "list" then some a else none
  | .tuple, .Call (.Name x _) [a] [] _ => if glob1 Z x "tuple" then some a else none
  | .sorted, .Call (.Name x _) [a] [] _ => if glob1 Z x "sorted" then some a else none
  | .isi "bool", .Call (.Name x _) [a, .Name y _] [] _ => if glob1 Z x "isinstance" && glob1 Z y "bool" then some a else none
  | .isi "int", .Call (.Name x _) [a, .Name y _] [] _ => if glob1 Z x "isinstance" && glob1 Z y "int" then some a else none
  | .isi "str", .Call (.Name x _) [a, .Name y _] [] _ => if glob1 Z x "isinstance" && glob1 Z y "str" then some a else none
  | .isi "list", .Call (.Name x _) [a, .Name y _] [] _ => if glob1 Z x "isinstance" && glob1 Z y "list" then some a else none
  | .isi "tuple", .Call (.Name x _) [a, .Name y _] [] _ => if glob1 Z x "isinstance" && glob1 Z y "tuple" then some a else none
  | .neg, .UnaryOp .USub a _ => some a
  | .sset, .Call (.Name x _) [.Call (.Name y _) [a] [] _] [] _ => if glob1 Z x "sorted" && glob1 Z y "set" then some a else none
  | .abs, .Call (.Name x _) [a] [] _ => if glob1 Z x "abs" then some a else none
  | .sum, .Call (.Name x _) [a] [] _ => if glob1 Z x "sum" then some a else none
  | .all, .Call (.Name x _) [a] [] _ => if glob1 Z x "all" then some a else none
  | .maxL, .Call (.Name x _) [a] [] _ => if glob1 Z x "max" then some a else none
  | .minL, .Call (.Name x _) [a] [] _ => if glob1 Z x "min" then some a else none
  | _, _ => none
def shape2 (Z : Sx) : K2 → Expr → Option (Expr × Expr)
  | .add, .BinOp a .Add b _ => some (a, b)
  | .sub, .BinOp a .Sub b _ => some (a, b)
  | .mul, .BinOp a .Mult b _ => some (a, b)
  | .div, .BinOp a .FloorDiv b _ => some (a, b)
  | .mod, .BinOp a .Mod b _ => some (a, b)
  | .pow, .BinOp a .Pow b _ => some (a, b)
  | .eq, .Compare a [.Eq] [b] _ => some (a, b)
  | .ne, .Compare a [.NotEq] [b] _ => some (a, b)
  | .lt, .Compare a [.Lt] [b] _ => some (a, b)
  | .le, .Compare a [.LtE] [b] _ => some (a, b)
  | .gt, .Compare a [.Gt] [b] _ => some (a, b)
  | .ge, .Compare a [.GtE] [b] _ => some (a, b)
  | .is, .Compare a [.Is] [b] _ => some (a, b)
  | .isNot, .Compare a [.IsNot] [b] _ => some (a, b)
  | .isIn, .Compare a [.In] [b] _ => some (a, b)
  | .notIn, .Compare a [.NotIn] [b] _ => some (a, b)
  | .at, .Subscript a b _ => some (a, b)
  | .index, .Call (.Attribute a n ap) [b] [] cp => if decide (n = "index") && (ap.endLine == cp.line) then some (a, b) else none
  | .join, .Call (.Attribute a n ap) [b] [] cp => if decide (n = "join") && (ap.endLine == cp.line) then some (a, b) else none
  | .min2, .Call (.Name x _) [a, b] [] _ => if glob1 Z x "min" then some (a, b) else none
  | .max2, .Call (.Name x _) [a, b] [] _ => if glob1 Z x "max" then some (a, b) else none
  | .bor, .BinOp a .BitOr b _ => some (a, b)
  | _, _ => none
def cmpB : K2 → Bool
  | .eq | .ne | .lt | .le | .gt | .ge | .is | .isNot | .isIn | .notIn => true
  | _ => false
def chkTg (Z : Sx) : Tg → Expr → Bool
  | .name i, .Name x _ => chkN Z i x && stB Z.raw x
  | .tup is, .Tuple ts _ _ => chkNs is ts
  | _, _ => false
where chkNs : List Nat → List Expr → Bool
  | [], [] => true
  | i :: is, .Name x _ :: ts => chkN Z i x && stB Z.raw x && chkNs is ts
  | _, _ => false
def ownP (N : List Str) (own : List Nat) : List (Str × Nat) := own.map fun i => (N.getD i ⟨#[]⟩, i)
theorem ownP_snd (N : List Str) (own : List Nat) : (ownP N own).map (·.2) = own := by
  unfold ownP
  rw [List.map_map]
  exact List.map_id own

mutual
def chkE (Z : Sx) : E → Expr → Bool
  | .var i, x => match x with
    | .Name x _ => varB Z i x
    | _ => false
  | .non, x => match x with
    | .Constant .none _ _ => true
    | _ => false
  | .bl b, x => match x with
    | .Constant (.bool c) _ _ => b == c
    | _ => false
  | .int n, x => match x with
    | .Constant (.int m) _ _ => decide (n = m)
    | _ => false
  | .str z, x => match x with
    | .Constant (.str y) _ _ => decide (z = y) && decide (z.length ≤ 1000)
    | _ => false
  | .tup es, x => match x with
    | .Tuple xs _ _ => chkL Z es xs && decide (xs.length ≤ 1000)
    | _ => false
  | .lst es, x => match x with
    | .List xs _ => chkL Z es xs && decide (xs.length ≤ 1000)
    | _ => false
  | .op1 k a, e => match shape1 Z k e with
    | some x => chkE Z a x && plain x
    | none => false
  | .op2 k a b, e => match shape2 Z k e with
    | some (x, y) => chkE Z a x && chkE Z b y && plain x && plain y
    | none => false
  | .cut a lo hi, x => match x with
    | .Subscript x (.Slice l h none _) _ => chkE Z a x && chkO Z lo l && chkO Z hi h
    | _ => false
  | .rev a, x => match x with
    | .Subscript x (.Slice none none (some (.UnaryOp .USub (.Constant (.int m) _ _) _)) _) _ => chkE Z a x && decide (m = 1)
    | _ => false
  | .and a b, x => match x with
    | .BoolOp .And (x :: y :: rest) p => chkE Z a x && (match rest with
      | [] => chkE Z b y
      | _ :: _ => chkE Z b (.BoolOp .And (y :: rest) p))
    | _ => false
  | .or a b, x => match x with
    | .BoolOp .Or (x :: y :: rest) p => chkE Z a x && (match rest with
      | [] => chkE Z b y
      | _ :: _ => chkE Z b (.BoolOp .Or (y :: rest) p))
    | _ => false
  | .not a, x => match x with
    | .UnaryOp .Not x _ => chkE Z a x
    | _ => false
  | .ite t a b, x => match x with
    | .IfExp c x y _ => chkT Z t c && chkE Z a x && chkE Z b y
    | _ => false
  | .call f es, x => match x with
    | .Call (.Name x _) (y :: ys) [] _ => decide (f = x) && glB Z.sc x && !(x == ("__debug__" : Str)) && chkL Z es (y :: ys) && (Z.T.lookup f).isSome
    | _ => false
  | .callB f es, x => match x with
    | .Call (.Name x _) (y :: ys) [] _ => decide (f = x) && glB Z.sc x && !(x == ("__debug__" : Str)) && chkL Z es (y :: ys) && (match Z.T.lookup f with | some D => D.io.isNone | none => false)
    | _ => false
  | .pop i a, x => match x with
    | .Call (.Attribute (.Name x _) n ap) [y] [] cp => varB Z i x && decide (n = "pop") && (ap.endLine == cp.line) && chkE Z a y && plain y
    | _ => false
  | .app i a, x => match x with
    | .Call (.Attribute (.Name x _) n ap) [y] [] cp => varB Z i x && decide (n = "append") && (ap.endLine == cp.line) && chkE Z a y && plain y
    | _ => false
  | .dct es, x => match x with
    | .Dict ks vs _ => chkP Z es ks vs && decide (ks.length ≤ 15)
    | _ => false
  | .setd i a b, x => match x with
    | .Call (.Attribute (.Name x _) n ap) [y, z] [] cp => varB Z i x && decide (n = "setdefault") && (ap.endLine == cp.line) && chkE Z a y && plain y && chkE Z b z && plain z
    | _ => false
  | .ins i a b, x => match x with
    | .Call (.Attribute (.Name x _) n ap) [y, z] [] cp => varB Z i x && decide (n = "insert") && (ap.endLine == cp.line) && chkE Z a y && plain y && chkE Z b z && plain z
    | _ => false
  | .pop0 i, x => match x with
    | .Call (.Attribute (.Name x _) n ap) [] [] cp => varB Z i x && decide (n = "pop") && (ap.endLine == cp.line)
    | _ => false
  | .ext i a, x => match x with
    | .Call (.Attribute (.Name x _) n ap) [y] [] cp => varB Z i x && decide (n = "extend") && (ap.endLine == cp.line) && chkE Z a y && plain y
    | _ => false
  | .call0 f, x => match x with
    | .Call (.Name x _) [] [] _ => decide (f = x) && glB Z.sc x && !(x == ("__debug__" : Str)) && (match Z.T.lookup f with | some D => D.io.isNone | none => false)
    | _ => false
  | .step a lo st, x => match x with
    | .Subscript x (.Slice l none (some s) _) _ => chkE Z a x && chkO Z lo l && chkE Z st s
    | _ => false
  | .bor e, x => chkE Z e x
  | .comp own tg src c elt, x => match x with
    | .ListComp el [⟨t, it, ifs, 0⟩] scope _ =>
      blkC Z.N Z.sc scope (ownP Z.N own) && chkTg { Z with sc := relS scope Z.sc, raw := scope } tg t && chkI Z src t it && plain it && chkOt { Z with sc := relS scope Z.sc, raw := scope } c ifs &&
        chkE { Z with sc := relS scope Z.sc, raw := scope } elt el && ((tgSlots tg).all fun i => decide (i ∈ own)) && (Z.pro.all fun i => !decide (i ∈ own))
    | _ => false
def chkL (Z : Sx) : Es → List Expr → Bool
  | .nil, xs => match xs with
    | [] => true
    | _ => false
  | .cons e es, xs => match xs with
    | x :: xs => chkE Z e x && plain x && chkL Z es xs
    | _ => false
def chkP (Z : Sx) : Es → List (Option Expr) → List Expr → Bool
  | .nil, ks, vs => match ks, vs with
    | [], [] => true
    | _, _ => false
  | .cons _ .nil, _, _ => false
  | .cons k (.cons v es), ks, vs => match ks, vs with
    | some x :: ks, y :: vs => chkE Z k x && chkE Z v y && chkP Z es ks vs
    | _, _ => false
def chkO (Z : Sx) : Oe → Option Expr → Bool
  | .no, x => match x with
    | none => true
    | _ => false
  | .yes e, x => match x with
    | some x => chkE Z e x
    | _ => false
def chkOt (Z : Sx) : Ot → List Expr → Bool
  | .no, xs => match xs with
    | [] => true
    | _ => false
  | .yes t, xs => match xs with
    | [x] => chkT Z t x
    | _ => false
def chkT (Z : Sx) : T → Expr → Bool
  | .val e, x => truB x && chkE Z e x
  | .cmp k a b, e => match shape2 Z k e with
    | some (x, y) => cmpB k && chkE Z a x && chkE Z b y && plain x && plain y
    | none => false
  | .not t, x => match x with
    | .UnaryOp .Not x _ => chkT Z t x
    | _ => false
  | .and a b, x => match x with
    | .BoolOp .And (x :: y :: rest) p => chkT Z a x && (match rest with
      | [] => chkT Z b y
      | _ :: _ => chkT Z b (.BoolOp .And (y :: rest) p))
    | _ => false
  | .or a b, x => match x with
    | .BoolOp .Or (x :: y :: rest) p => chkT Z a x && (match rest with
      | [] => chkT Z b y
      | _ :: _ => chkT Z b (.BoolOp .Or (y :: rest) p))
    | _ => false
def chkI (Z : Sx) : Src → Expr → Expr → Bool
  | .seq e, _, x => chkE Z e x
  | .rng1 a, _, x => match x with
    | .Call (.Name f _) [x] [] _ => glob1 Z f "range" && chkE Z a x && plain x
    | _ => false
  | .rng2 a b, _, x => match x with
    | .Call (.Name f _) [x, y] [] _ => glob1 Z f "range" && chkE Z a x && chkE Z b y && plain x && plain y
    | _ => false
  | .zip es, t, x => match x with
    | .Call (.Name f _) [x, y] [] _ => isTupE t && glob1 Z f "zip" && chkL Z es [x, y] && plain x && plain y
    | _ => false
  | .enm es, t, x => match x with
    | .Call (.Name f _) [x] [] _ => isTupE t && glob1 Z f "enumerate" && chkL Z es [x] && plain x
    | _ => false
  | .rng3 es, _, x => match x with
    | .Call (.Name f _) [x, y, z] [] _ => glob1 Z f "range" && chkL Z es [x, y, z] && plain x && plain y && plain z
    | _ => false
end
mutual
def chkS (Z : Sx) : S → Stmt → Bool
  | .expr e, x => match x with
    | .Expr x _ => chkE Z e x && noComp x
    | _ => false
  | .set i e, x => match x with
    | .Assign [.Name x _] y _ => chkN Z i x && stB Z.raw x && !decide (i ∈ Z.pro) && chkE Z e y && (noComp y || isComp e)
    | _ => false
  | .unp is e, x => match x with
    | .Assign [.Tuple ts k p] y _ => chkTg Z (.tup is) (.Tuple ts k p) && chkE Z e y && noTup y && (Z.pro.all fun i => !decide (i ∈ is))
    | _ => false
  | .setAt i ix e, x => match x with
    | .Assign [.Subscript (.Name x _) j _] y _ => varB Z i x && chkE Z ix j && plain j && chkE Z e y
    | _ => false
  | .aug i k e, x => match x with
    | .AugAssign (.Name x _) .Add y _ => decide (k = .add) && chkN Z i x && stB Z.raw x && !decide (i ∈ Z.pro) && chkE Z e y
    | .AugAssign (.Name x _) .Sub y _ => decide (k = .sub) && chkN Z i x && stB Z.raw x && !decide (i ∈ Z.pro) && chkE Z e y
    | _ => false
  | .ife t a b, x => match x with
    | .If c x y _ => chkT Z t c && chkB Z a x && chkB Z b y
    | _ => false
  | .for_ tg src body _, x => match x with
    | .For t it bd [] _ => chkTg Z tg t && chkI Z src t it && plain it && chkB Z body bd && (Z.pro.all fun i => !decide (i ∈ tgSlots tg))
    | _ => false
  | .whl t body _, x => match x with
    | .While c bd [] _ => chkT Z t c && chkB Z body bd
    | _ => false
  | .ret e, x => match x with
    | .Return (some x) _ => chkE Z e x
    | _ => false
  | .retN, x => match x with
    | .Return none _ => true
    | _ => false
  | .pass, x => match x with
    | .Pass _ => true
    | _ => false
  | .brk, x => match x with
    | .Break _ => true
    | _ => false
  | .cont, x => match x with
    | .Continue _ => true
    | _ => false
def chkB (Z : Sx) : Ss → List Stmt → Bool
  | .nil, xs => match xs with
    | [] => true
    | _ => false
  | .cons s ss, xs => match xs with
    | x :: xs => chkS Z s x && chkB Z ss xs
    | _ => false
end

/-! ### what the text's forms give -/
theorem plain_star {e : Expr} (h : plain e = true) (es : List Expr) (env : Env) : starEach (e :: es) env = (false, eval e env) :: starEach es env := by
  cases e with
  | Starred v p => cases h
  | _ => rfl
theorem plain_base {e : Expr} (h : plain e = true) (n : Str) (env : Env) (w : Sem Value) : attributeBase e n env w = w := by
  unfold attributeBase
  split
  · exact absurd (show false = true from h) Bool.false_ne_true
  · rfl
theorem plain_mark {e : Expr} (h : plain e = true) (op : CmpOp) : behindInMarks op e = false := by
  cases e with
  | Set a b c => cases h
  | _ => rfl
theorem plain_ix {e : Expr} (h : plain e = true) : PlainIx e := fun o i => by
  cases e with
  | Slice a b c d => cases h
  | _ => rfl
theorem plain_fold {e : Expr} (h : plain e = true) (env : Env) (x : Value) : foldedSetIterable e env x = pure x := by
  cases e with
  | Set a b c => cases h
  | _ => rfl
theorem tru_is {e : Expr} (h : truB e = true) (env : Env) (whole : Sem Value) : isTrue e env whole = (do let v ← whole; standAt e.pos; holding [v] (truthy v)) := by
  cases e with
  | UnaryOp op a p =>
    cases op with
    | Not => cases h
    | _ => rfl
  | BoolOp a b c => cases h
  | IfExp a b c d => cases h
  | Compare a b c d => cases h
  | _ => rfl
theorem noComp_sw {e : Expr} (h : noComp e = true) (t : Option Expr) (l : Nat) (env : Env) : swapsWith e t l env = pure false := by
  cases e with
  | ListComp a b c d => cases h
  | SetComp a b c d => cases h
  | DictComp a b c d f => cases h
  | _ => rfl

def bnames : List Str := ["len", "int", "list", "tuple", "sorted", "isinstance", "range", "bool", "str", "zip", "enumerate", "set", "min", "max", "sum", "abs", "dict", "all", "reversed", "repr"]
/-- a def of the text that may be called by its name -/
structure Cal (P : Program) (w : World) (K : PySem.W.Frag) (mg : Str → Option Value) (base : Heap) (k : Nat) (x : Str) (sp : Sp) : Prop where
  ex : ∃ (f : Addr) (fd : FuncData) (ps : List Str), FnOk P w K mg base CX0 k f fd ps sp ∧ mg x = some (.ref f) ∧ PySem.W.keepIn K (.ref f) = true ∧ Binds K fd ps []
structure GdX (X : Cx) (Z : Sx) (n k : Nat) : Prop where
  N : X.N = Z.N
  nd : Z.N.Nodup
  sc : X.env.scope = Z.sc
  st : ∀ x, stB Z.raw x = true → Loc X.env.scope x ∧ (X.fn x = true ∨ X.env.scope.names.lookup x = some .local)
  calm : X.calm = true
  room : Room k X.A
  pa : PassesOwn (model X.prog X.w) X.A X.env X.xe
  bi : ∀ x ∈ bnames, X.mg x = none
  cal : ∀ f D, Z.T.lookup f = some D → k = 0 ∨ Cal X.prog X.w X.K X.mg X.base k f (spD X.kw D.io D.ps ((Phi Z.T n k).phi f))
  kd : Z.sc.kind = .function
section
variable {X : Cx} {Z : Sx} {n k : Nat}
theorem GdX.vis (g : GdX X Z n k) {x : Str} (h : visB Z.sc x = true) : Vis X.env.scope x := by
  rw [g.sc]
  unfold visB at h
  split at h
  · rename_i e; exact .inl e
  · rename_i e; exact .inr (.inl e)
  · rename_i e; exact .inr (.inr e)
  · cases h
theorem GdX.gl (g : GdX X Z n k) {x : Str} (h : glB Z.sc x = true) : Gl X x := by
  unfold glB at h
  split at h
  · rename_i e
    show X.env.scope.names.lookup x = _
    rw [g.sc]
    exact e
  · cases h
theorem GdX.pvar (g : GdX X Z n k) {i : Nat} {x : Str} {pos : Pos} (h : varB Z i x = true) : PE X (.Name x pos) (tVar i) := by
  unfold varB at h
  simp only [Bool.and_eq_true, Bool.not_eq_true'] at h
  obtain ⟨⟨⟨h1, h2⟩, h3⟩, h4⟩ := h
  exact pe_var (by rw [g.N]; exact of_decide_eq_true h1) (g.vis h2) h3 h4
theorem GdX.glob (g : GdX X Z n k) {x y : Str} (h : glob1 Z x y = true) : x = y ∧ Gl X y := by
  unfold glob1 at h
  rw [Bool.and_eq_true] at h
  exact ⟨of_decide_eq_true h.1, g.gl h.2⟩
theorem GdX.pg (g : GdX X Z n k) {i : Nat} {x : Str} {pos : Pos} (h1 : chkN Z i x = true) (h2 : stB Z.raw x = true) : PG X (.Name x pos) (gName i) := by
  obtain ⟨h3, h4⟩ := g.st x h2
  exact pg_name (by rw [g.N]; exact g.nd) (by rw [g.N]; exact of_decide_eq_true h1) h3 h4
theorem pgs_names (g : GdX X Z n k) : ∀ {is : List Nat} {ts : List Expr}, chkTg.chkNs Z is ts = true → PGs X ts (gNames is) ∧ (assignEach ts X.env).length = is.length ∧ (assignEach ts X.env).findIdx? (·.1) = none
  | [], [], _ => ⟨pgs_nil, rfl, rfl⟩
  | i :: is, .Name x p :: ts, h => by
    unfold chkTg.chkNs at h
    simp only [Bool.and_eq_true] at h
    obtain ⟨⟨h1, h2⟩, h3⟩ := h
    obtain ⟨g1, g2, g3⟩ := pgs_names g h3
    refine ⟨pgs_cons (g.pg h1 h2) g1 rfl, ?_, ?_⟩
    · show (assignEach ts X.env).length + 1 = _
      rw [g2]
      rfl
    · show List.findIdx? (·.1) ((false, assign (.Name x p) X.env) :: assignEach ts X.env) = none
      rw [List.findIdx?_cons, g3]
      rfl
  | [], _ :: _, h => by cases h
  | _ :: _, [], h => by cases h
  | i :: is, e :: ts, h => by
    cases e with
    | Name x p =>
      unfold chkTg.chkNs at h
      simp only [Bool.and_eq_true] at h
      obtain ⟨⟨h1, h2⟩, h3⟩ := h
      obtain ⟨g1, g2, g3⟩ := pgs_names g h3
      refine ⟨pgs_cons (g.pg h1 h2) g1 rfl, ?_, ?_⟩
      · show (assignEach ts X.env).length + 1 = _
        rw [g2]
        rfl
      · show List.findIdx? (·.1) ((false, assign (.Name x p) X.env) :: assignEach ts X.env) = none
        rw [List.findIdx?_cons, g3]
        rfl
    | _ => cases h
theorem GdX.tg (g : GdX X Z n k) {tg : Tg} {t : Expr} (h : chkTg Z tg t = true) : PG X t (gT X.kw tg) := by
  cases tg with
  | name i =>
    cases t with
    | Name x p =>
      have h : (chkN Z i x && stB Z.raw x) = true := h
      rw [Bool.and_eq_true] at h
      exact g.pg h.1 h.2
    | _ => cases h
  | tup is =>
    cases t with
    | Tuple ts k p =>
      obtain ⟨g1, g2, g3⟩ := pgs_names g (is := is) (ts := ts) h
      exact pg_tup g.calm g1 g2 g3
    | _ => cases h
/-- the block of a comprehension -/
theorem GdX.blk (g : GdX X Z n k) {own : List (Str × Nat)} {scope : Scope} (hb : blkC Z.N Z.sc scope own = true) (s : Shared) (H : Hp) (C : Addr) (cl : List (Str × Addr)) (fp : List Addr) :
    GdX (X.blk s H scope (compEnvC scope cl C X.env) fp) { Z with sc := relS scope Z.sc, raw := scope } n k := by
  have hk := (blkOk_by hb).kind
  refine ⟨g.N, g.nd, ?_, fun x hx => ?_, g.calm, g.room, PassesOwn.never, g.bi, g.cal, ?_⟩
  · show relabel scope X.env = relS scope Z.sc
    rw [← g.sc]
    rfl
  · have e : (compEnvC scope cl C X.env).scope = relS scope X.env.scope := rfl
    show Loc (compEnvC scope cl C X.env).scope x ∧ _
    rw [e]
    unfold stB at hx
    split at hx
    · rename_i hl
      have := lookup_relS_keep (sc := X.env.scope) (by decide) hl
      exact ⟨.inl this, .inr (by show (compEnvC scope cl C X.env).scope.names.lookup x = _; rw [e]; exact this)⟩
    · rename_i hl
      have := lookup_relS_keep (sc := X.env.scope) (by decide) hl
      exact ⟨.inr this, .inl (by show (scope.names.lookup x == some .cell) = true; rw [hl]; rfl)⟩
    · cases hx
  · exact hk
theorem GdX.block (g : GdX X Z n k) : X.env.blockKind = .function := by
  unfold Env.blockKind
  rw [g.sc, g.kd]
  rfl

/-! ### operations -/
theorem few1 {e : Expr} (h : plain e = true) (cp : Pos) (env : Env) : ((backTo cp (starEach [e] env)).all (fun x => !x.1) && (backToKw cp (keywordEach [] env)).all (fun x => x.1.isSome) && decide ([e].length + ([] : List Keyword).length + (if ([] : List Keyword).isEmpty then 0 else 1) < 30)) = true := by
  rw [plain_star h]
  rfl
theorem few2 {e f : Expr} (h : plain e = true) (h2 : plain f = true) (cp : Pos) (env : Env) : ((backTo cp (starEach [e, f] env)).all (fun x => !x.1) && (backToKw cp (keywordEach [] env)).all (fun x => x.1.isSome) && decide ([e, f].length + ([] : List Keyword).length + (if ([] : List Keyword).isEmpty then 0 else 1) < 30)) = true := by
  rw [plain_star h, plain_star h2]
  rfl
theorem pe_method {T id : String} {name : Str} {o e : Expr} {to te : TE} {r : V → List V → Hp → VK → Prop} {ap cp : Pos} (pa : PlainAttrs T) (slot : Slot T name id) (hty : typeOf (.builtin id) = pure (.type "method_descriptor")) (hm : MtR X id r) (ho : PE X o to) (he : PE X e te)
    (po : plain o = true) (pl : plain e = true) (hl : (ap.endLine == cp.line) = true) : PE X (.Call (.Attribute o name ap) [e] [] cp) (tBM X.kw T r to (tCons te tNil)) :=
  pe_bm pa slot hty hm ho (pa_cons he pa_nil (plain_star pl [] X.env)) (plain_base po name X.env _) (few1 pl cp X.env) hl (plain_star pl [] X.env) rfl
theorem snd2 (g : GdX X Z n k) {op : K2} {e ea eb : Expr} {ia ib : E} (hs : shape2 Z op e = some (ea, eb)) (pa : plain ea = true) (pb : plain eb = true) (ha : PE X ea (rdE X.kw Z.pro (run (Phi Z.T n k) ia))) (hb : PE X eb (rdE X.kw Z.pro (run (Phi Z.T n k) ib))) :
    PE X e (rdE X.kw Z.pro (run (Phi Z.T n k) (.op2 op ia ib))) := by
  have hu := g.room.units
  unfold shape2 at hs
  split at hs
  · cases hs
    exact PE.imp (pe_op ok_add ha hb) fun σ H Q h => imp_op2 h
  · cases hs
    exact PE.imp (pe_op ok_sub ha hb) fun σ H Q h => imp_op2 h
  · cases hs
    exact PE.imp (pe_op ok_mul ha hb) fun σ H Q h => imp_op2 h
  · cases hs
    exact PE.imp (pe_op ok_div ha hb) fun σ H Q h => imp_op2 h
  · cases hs
    exact PE.imp (pe_op ok_mod ha hb) fun σ H Q h => imp_op2 h
  · cases hs
    exact PE.imp (pe_op ok_pow ha hb) fun σ H Q h => imp_op2 h
  · cases hs
    exact PE.imp (pe_cmpR (ok_eq hu) ha hb (plain_mark pb _)) fun σ H Q h => imp_op2 h
  · cases hs
    exact PE.imp (pe_cmpR (ok_ne hu) ha hb (plain_mark pb _)) fun σ H Q h => imp_op2 h
  · cases hs
    exact PE.imp (pe_cmpR ok_lt ha hb (plain_mark pb _)) fun σ H Q h => imp_op2 h
  · cases hs
    exact PE.imp (pe_cmpR ok_le ha hb (plain_mark pb _)) fun σ H Q h => imp_op2 h
  · cases hs
    exact PE.imp (pe_cmpR ok_gt ha hb (plain_mark pb _)) fun σ H Q h => imp_op2 h
  · cases hs
    exact PE.imp (pe_cmpR ok_ge ha hb (plain_mark pb _)) fun σ H Q h => imp_op2 h
  · cases hs
    exact PE.imp (pe_cmpR ok_is ha hb (plain_mark pb _)) fun σ H Q h => imp_op2 h
  · cases hs
    exact PE.imp (pe_cmpR ok_isNot ha hb (plain_mark pb _)) fun σ H Q h => imp_op2 h
  · cases hs
    exact PE.imp (pe_cmpR (ok_in hu) ha hb (plain_mark pb _)) fun σ H Q h => imp_op2 h
  · cases hs
    exact PE.imp (pe_cmpR (ok_notIn hu) ha hb (plain_mark pb _)) fun σ H Q h => imp_op2 h
  · cases hs
    exact PE.imp (pe_ix (ok_at hu) ha hb (plain_ix pb)) fun σ H Q h => imp_op2 h
  · split at hs
    · rename_i hc
      cases hs
      rw [Bool.and_eq_true] at hc
      obtain ⟨h1, h2⟩ := hc
      have h1 := of_decide_eq_true h1
      subst h1
      exact PE.imp (pe_method PySem.F.plainAttrs_str PySem.F.slot_str_index PySem.F.type_str_index ok_index ha hb pa pb h2) fun σ H Q h => imp_meth (fun _ => rfl) h
    · cases hs
  · split at hs
    · rename_i hc
      cases hs
      rw [Bool.and_eq_true] at hc
      obtain ⟨h1, h2⟩ := hc
      have h1 := of_decide_eq_true h1
      subst h1
      exact PE.imp (pe_method PySem.F.plainAttrs_str PySem.F.slot_str_join PySem.F.type_str_join ok_join ha hb pa pb h2) fun σ H Q h => imp_meth (fun _ => rfl) h
    · cases hs
  · split at hs
    · rename_i hc
      cases hs
      obtain ⟨rfl, g1⟩ := g.glob hc
      exact PE.imp (pe_callB (ok_min2 g.calm) g1 (g.bi _ (by decide)) (by decide +kernel) (pa_cons ha (pa_cons hb pa_nil (plain_star pb [] X.env)) (plain_star pa _ X.env)) (by decide) (by decide) (plain_star pa _ X.env) (by rw [plain_star pb [] X.env]; rfl)) fun σ H Q h => imp_call2 h
    · cases hs
  · split at hs
    · rename_i hc
      cases hs
      obtain ⟨rfl, g1⟩ := g.glob hc
      exact PE.imp (pe_callB (ok_max2 g.calm) g1 (g.bi _ (by decide)) (by decide +kernel) (pa_cons ha (pa_cons hb pa_nil (plain_star pb [] X.env)) (plain_star pa _ X.env)) (by decide) (by decide) (plain_star pa _ X.env) (by rw [plain_star pb [] X.env]; rfl)) fun σ H Q h => imp_call2 h
    · cases hs
  · cases hs
    exact PE.imp (pe_op ok_bor ha hb) fun σ H Q h => imp_op2 h
  · cases hs
theorem snd1 (g : GdX X Z n k) {op : K1} {e ea : Expr} {ia : E} (hs : shape1 Z op e = some ea) (pa : plain ea = true) (ha : PE X ea (rdE X.kw Z.pro (run (Phi Z.T n k) ia))) :
    PE X e (rdE X.kw Z.pro (run (Phi Z.T n k) (.op1 op ia))) := by
  have st : ∀ (xs : List Expr), starEach (ea :: xs) X.env = (false, eval ea X.env) :: starEach xs X.env := fun xs => plain_star pa xs X.env
  have arg : PA X [ea] (tCons (rdE X.kw Z.pro (run (Phi Z.T n k) ia)) tNil) := pa_cons ha pa_nil (st [])
  have isi : ∀ (t : String) (x y : Str) (p q r : Pos), glob1 Z x "isinstance" = true → glob1 Z y (Str.ofString t) = true → X.mg (Str.ofString t) = none → bootBuiltins (Str.ofString t) = some (.type t) → (Str.ofString t) ≠ "__name__" → ((Str.ofString t) == ("__debug__" : Str)) = false →
      PE X (.Call (.Name x p) [ea, .Name y q] [] r) (rdE X.kw Z.pro (run (Phi Z.T n k) (.op1 (.isi t) ia))) := by
    intro t x y p q r h1 h2 hm hb hn hd
    obtain ⟨rfl, g1⟩ := g.glob h1
    obtain ⟨rfl, g2⟩ := g.glob h2
    refine PE.imp (pe_callB (ok_isi t) g1 (g.bi _ (by decide)) (by decide +kernel) (pa_cons ha (pa_cons (pe_bltn (v := .ty t) g2 hm hb rfl hn hd) pa_nil rfl) (st _)) (by decide) (by decide) (st _) rfl) fun σ H Q h => imp_isi h
  unfold shape1 at hs
  split at hs
  · split at hs
    · rename_i hc
      cases hs
      obtain ⟨rfl, g1⟩ := g.glob hc
      exact PE.imp (pe_callB ok_len g1 (g.bi _ (by decide)) (by decide +kernel) arg (by decide) (by decide) (st _) rfl) fun σ H Q h => imp_call1 h
    · cases hs
  · split at hs
    · rename_i hc
      cases hs
      obtain ⟨rfl, g1⟩ := g.glob hc
      exact PE.imp (pe_callTy ok_int g1 (g.bi _ (by decide)) (by decide +kernel) arg (by decide) (by decide) (st _) rfl) fun σ H Q h => imp_call1 h
    · cases hs
  · split at hs
    · rename_i hc
      cases hs
      rw [Bool.and_eq_true] at hc
      obtain ⟨rfl, g1⟩ := g.glob hc.1
      obtain ⟨rfl, g2⟩ := g.glob hc.2
      exact PE.imp (pe_listRg g.calm g1 (g.bi _ (by decide)) (prg_1 g2 (g.bi _ (by decide)) ha (st []))) fun σ H Q h => imp_lrg h
    · cases hs
  · split at hs
    · rename_i hc
      cases hs
      obtain ⟨rfl, g1⟩ := g.glob hc
      exact PE.imp (pe_callTy (ok_list g.calm) g1 (g.bi _ (by decide)) (by decide +kernel) arg (by decide) (by decide) (st _) rfl) fun σ H Q h => imp_call1 h
    · cases hs
  · split at hs
    · rename_i hc
      cases hs
      obtain ⟨rfl, g1⟩ := g.glob hc
      exact PE.imp (pe_callTy ok_tuple g1 (g.bi _ (by decide)) (by decide +kernel) arg (by decide) (by decide) (st _) rfl) fun σ H Q h => imp_call1 h
    · cases hs
  · split at hs
    · rename_i hc
      cases hs
      obtain ⟨rfl, g1⟩ := g.glob hc
      exact PE.imp (pe_callB (ok_sorted g.calm) g1 (g.bi _ (by decide)) (by decide +kernel) arg (by decide) (by decide) (st _) rfl) fun σ H Q h => imp_call1 h
    · cases hs
  · split at hs
    · rename_i hc
      cases hs
      rw [Bool.and_eq_true] at hc
      exact isi "bool" _ _ _ _ _ hc.1 hc.2 (g.bi "bool" (by decide)) (by decide +kernel) (by decide) (by decide)
    · cases hs
  · split at hs
    · rename_i hc
      cases hs
      rw [Bool.and_eq_true] at hc
      exact isi "int" _ _ _ _ _ hc.1 hc.2 (g.bi "int" (by decide)) (by decide +kernel) (by decide) (by decide)
    · cases hs
  · split at hs
    · rename_i hc
      cases hs
      rw [Bool.and_eq_true] at hc
      exact isi "str" _ _ _ _ _ hc.1 hc.2 (g.bi "str" (by decide)) (by decide +kernel) (by decide) (by decide)
    · cases hs
  · split at hs
    · rename_i hc
      cases hs
      rw [Bool.and_eq_true] at hc
      exact isi "list" _ _ _ _ _ hc.1 hc.2 (g.bi "list" (by decide)) (by decide +kernel) (by decide) (by decide)
    · cases hs
  · split at hs
    · rename_i hc
      cases hs
      rw [Bool.and_eq_true] at hc
      exact isi "tuple" _ _ _ _ _ hc.1 hc.2 (g.bi "tuple" (by decide)) (by decide +kernel) (by decide) (by decide)
    · cases hs
  · cases hs
    exact PE.imp (pe_un un_neg ha) fun σ H Q h => imp_neg h
  · split at hs
    · rename_i hc
      cases hs
      rw [Bool.and_eq_true] at hc
      obtain ⟨rfl, g1⟩ := g.glob hc.1
      obtain ⟨rfl, g2⟩ := g.glob hc.2
      exact PE.imp (pe_callB (cr_sortSS g.calm) g1 (g.bi _ (by decide)) (by decide +kernel) (pa_cons (pe_callTy (cr_setS g.calm) g2 (g.bi _ (by decide)) (by decide +kernel) arg (by decide) (by decide) (st _) rfl) pa_nil rfl) (by decide) (by decide) rfl rfl) fun σ H Q h => imp_sset h
    · cases hs
  · split at hs
    · rename_i hc
      cases hs
      obtain ⟨rfl, g1⟩ := g.glob hc
      exact PE.imp (pe_callB ok_abs g1 (g.bi _ (by decide)) (by decide +kernel) arg (by decide) (by decide) (st _) rfl) fun σ H Q h => imp_call1 h
    · cases hs
  · split at hs
    · rename_i hc
      cases hs
      obtain ⟨rfl, g1⟩ := g.glob hc
      exact PE.imp (pe_callB (ok_sum g.calm) g1 (g.bi _ (by decide)) (by decide +kernel) arg (by decide) (by decide) (st _) rfl) fun σ H Q h => imp_call1 h
    · cases hs
  · split at hs
    · rename_i hc
      cases hs
      obtain ⟨rfl, g1⟩ := g.glob hc
      exact PE.imp (pe_callB (ok_all g.calm) g1 (g.bi _ (by decide)) (by decide +kernel) arg (by decide) (by decide) (st _) rfl) fun σ H Q h => imp_call1 h
    · cases hs
  · split at hs
    · rename_i hc
      cases hs
      obtain ⟨rfl, g1⟩ := g.glob hc
      exact PE.imp (pe_callB (ok_maxL g.calm) g1 (g.bi _ (by decide)) (by decide +kernel) arg (by decide) (by decide) (st _) rfl) fun σ H Q h => imp_call1 h
    · cases hs
  · split at hs
    · rename_i hc
      cases hs
      obtain ⟨rfl, g1⟩ := g.glob hc
      exact PE.imp (pe_callB (ok_minL g.calm) g1 (g.bi _ (by decide)) (by decide +kernel) arg (by decide) (by decide) (st _) rfl) fun σ H Q h => imp_call1 h
    · cases hs
  · cases hs
end
end Dl

/-! D8: the text does what its term says. -/
namespace Dl
open PySem PySem.Spec PyProof.Rows L2

theorem and2 {a b : Bool} (h : (a && b) = true) : a = true ∧ b = true := Bool.and_eq_true_iff.mp h
theorem runL_len {W : Wd} : ∀ (es : Es) (r : Rho) (ds : List Dat) (r' : Rho) (Z : Sx) (xs : List Expr), chkL Z es xs = true → runL W es r = some (ds, r') → ds.length = xs.length
  | .nil, r, ds, r', Z, xs, hc, h => by
    unfold chkL at hc
    unfold runL at h
    cases h
    split at hc
    · rfl
    · cases hc
  | .cons e es, r, ds, r', Z, xs, hc, h => by
    unfold chkL at hc
    unfold runL at h
    obtain ⟨⟨oa, r1⟩, ha, h⟩ := bindS h
    obtain ⟨⟨d, r2⟩, hd, h⟩ := bindS h
    obtain ⟨⟨ds', r3⟩, he, h⟩ := bindS h
    cases h
    split at hc
    · rw [List.length_cons, List.length_cons, runL_len es r2 ds' _ Z _ (and2 hc).2 he]
    · cases hc
theorem small_line {n : Nat} (h : n ≤ 1000) : n ≤ sizeLine := Nat.le_of_lt (small1000 h)
theorem pw_of {X : Cx} {op : BoolOp} {vs : List Expr} {p : Pos} {t : TT} (h : PT X (.BoolOp op vs p) t) : PW X (.BoolOp op vs p) t := ⟨fun _ pins s σ H Q I q => h.run pins s σ H Q I q⟩
theorem sndCmp {X : Cx} {Z : Sx} {n k : Nat} (g : GdX X Z n k) {op : K2} {e ea eb : Expr} {ia ib : E} (hc : cmpB op = true) (hs : shape2 Z op e = some (ea, eb)) (pb : plain eb = true) (ha : PE X ea (rdE X.kw Z.pro (run (Phi Z.T n k) ia))) (hb : PE X eb (rdE X.kw Z.pro (run (Phi Z.T n k) ib))) :
    PT X e (rdT X.kw Z.pro (runT (Phi Z.T n k) (.cmp op ia ib))) := by
  have hu := g.room.units
  unfold shape2 at hs
  split at hs
  · cases hc
  · cases hc
  · cases hc
  · cases hc
  · cases hc
  · cases hc
  · cases hs
    exact PT.imp (pt_cmpR (ok_eq hu) ha hb (plain_mark pb _)) fun σ H Q h => imp_tcmp h
  · cases hs
    exact PT.imp (pt_cmpR (ok_ne hu) ha hb (plain_mark pb _)) fun σ H Q h => imp_tcmp h
  · cases hs
    exact PT.imp (pt_cmpR ok_lt ha hb (plain_mark pb _)) fun σ H Q h => imp_tcmp h
  · cases hs
    exact PT.imp (pt_cmpR ok_le ha hb (plain_mark pb _)) fun σ H Q h => imp_tcmp h
  · cases hs
    exact PT.imp (pt_cmpR ok_gt ha hb (plain_mark pb _)) fun σ H Q h => imp_tcmp h
  · cases hs
    exact PT.imp (pt_cmpR ok_ge ha hb (plain_mark pb _)) fun σ H Q h => imp_tcmp h
  · cases hs
    exact PT.imp (pt_cmpR ok_is ha hb (plain_mark pb _)) fun σ H Q h => imp_tcmp h
  · cases hs
    exact PT.imp (pt_cmpR ok_isNot ha hb (plain_mark pb _)) fun σ H Q h => imp_tcmp h
  · cases hs
    exact PT.imp (pt_cmpR (ok_in hu) ha hb (plain_mark pb _)) fun σ H Q h => imp_tcmp h
  · cases hs
    exact PT.imp (pt_cmpR (ok_notIn hu) ha hb (plain_mark pb _)) fun σ H Q h => imp_tcmp h
  · cases hc
  · cases hc
  · cases hc
  · cases hc
  · cases hc
  · cases hs
    cases hc
  · cases hs
/-- a def's answer is that of a def of the text -/
theorem phi_len {T : List (Str × Df)} {n k : Nat} {f : Str} {D : Df} (h : T.lookup f = some D) (ds : List Dat) (x : Out × Dat) (hp : (Phi T n k).phi f ds = some x) : ds.length = D.ps := by
  cases k with
  | zero => cases hp
  | succ k =>
    have hp : (match T.lookup f with | some D => runD (Phi T n k) n D ds | none => none) = some x := hp
    rw [h] at hp
    have hp : runD (Phi T n k) n D ds = some x := hp
    unfold runD at hp
    split at hp
    · assumption
    · cases hp
theorem phi_io {T : List (Str × Df)} {n k : Nat} {f : Str} {D : Df} (h : T.lookup f = some D) : (Phi T n k).io f = some D.io := by
  cases k with
  | zero => show (T.lookup f).map (·.io) = _; rw [h]; rfl
  | succ k => show (T.lookup f).map (·.io) = _; rw [h]; rfl

theorem plains_any : ∀ (es : Es) (Z : Sx) (zs : List Expr), chkL Z es zs = true → ∀ (env : Env) (cp : Pos), (backTo cp (starEach zs env)).any (·.1) = false
  | .nil, Z, zs, h, _, _ => by
    unfold chkL at h
    split at h
    · rfl
    · cases h
  | .cons e es, Z, zs, h, env, cp => by
    unfold chkL at h
    split at h
    · have h1 := and2 h
      have ih := plains_any es Z _ h1.2 env cp
      rw [plain_star (and2 h1.1).2]
      exact ih
    · cases h
theorem chkP_all (Z : Sx) : ∀ (es : Es) (ks : List (Option Expr)) (vs : List Expr), chkP Z es ks vs = true → ks.all (·.isSome) = true ∧ ks.length = vs.length ∧ evenE es = true ∧ (es = .nil ∨ ks ≠ [])
  | .nil, ks, vs, h => by
    unfold chkP at h
    split at h
    · exact ⟨rfl, rfl, rfl, .inl rfl⟩
    · cases h
  | .cons _ .nil, ks, vs, h => by
    unfold chkP at h
    cases h
  | .cons k (.cons v es), ks, vs, h => by
    unfold chkP at h
    split at h
    · obtain ⟨h1, h2, h3, _⟩ := chkP_all Z es _ _ (and2 h).2
      refine ⟨by rw [List.all_cons, h1]; rfl, by rw [List.length_cons, List.length_cons, h2], h3, .inr (by simp)⟩
    · cases h
mutual
theorem sndE : ∀ (e : E) {X : Cx} {Z : Sx} {n k : Nat} (g : GdX X Z n k) (x : Expr), chkE Z e x = true → PE X x (rdE X.kw Z.pro (run (Phi Z.T n k) e))
  | .var i, X, Z, n, k, g, x, h => by
    unfold chkE at h
    split at h
    · exact PE.imp (g.pvar h) fun σ H Q q => imp_var q
    all_goals cases h
  | .non, X, Z, n, k, g, x, h => by
    unfold chkE at h
    split at h
    · exact PE.imp pe_non fun σ H Q q => imp_c (d := .non) (fun r => by unfold run; rfl) (fun _ _ => rfl) q
    all_goals cases h
  | .bl b, X, Z, n, k, g, x, h => by
    unfold chkE at h
    split at h
    · rename_i c _ _
      have h : b = c := by simpa using h
      subst h
      exact PE.imp pe_bl fun σ H Q q => imp_c (d := .bl b) (fun r => by unfold run; rfl) (fun _ _ => rfl) q
    all_goals cases h
  | .int m, X, Z, n, k, g, x, h => by
    unfold chkE at h
    split at h
    · have h := of_decide_eq_true h
      subst h
      exact PE.imp pe_int fun σ H Q q => imp_c (d := .int m) (fun r => by unfold run; rfl) (fun _ _ => rfl) q
    all_goals cases h
  | .str z, X, Z, n, k, g, x, h => by
    unfold chkE at h
    split at h
    · have h1 := of_decide_eq_true (and2 h).1
      have h2 := of_decide_eq_true (and2 h).2
      subst h1
      exact PE.imp pe_str fun σ H Q q => imp_c (d := .str z) (fun r => by unfold run; rfl) (fun _ _ => ⟨rfl, small_line h2⟩) q
    all_goals cases h
  | .tup es, X, Z, n, k, g, x, h => by
    unfold chkE at h
    split at h
    · have h2 := of_decide_eq_true (and2 h).2
      exact PE.imp (pe_tup (sndL es g _ (and2 h).1)) fun σ H Q q => imp_tup (fun r ds r' hr => by rw [runL_len es r ds r' Z _ (and2 h).1 hr]; exact small_line h2) q
    all_goals cases h
  | .lst es, X, Z, n, k, g, x, h => by
    unfold chkE at h
    split at h
    · have h2 := of_decide_eq_true (and2 h).2
      exact PE.imp (pe_lst (sndL es g _ (and2 h).1)) fun σ H Q q => imp_lst (fun r ds r' hr => by rw [runL_len es r ds r' Z _ (and2 h).1 hr]; exact small_line h2) q
    all_goals cases h
  | .op1 op a, X, Z, n, k, g, x, h => by
    unfold chkE at h
    split at h
    · rename_i y hs
      exact snd1 g hs (and2 h).2 (sndE a g y (and2 h).1)
    · cases h
  | .op2 op a b, X, Z, n, k, g, x, h => by
    unfold chkE at h
    split at h
    · rename_i y z hs
      have h1 := and2 h
      have h2 := and2 h1.1
      have h3 := and2 h2.1
      exact snd2 g hs h2.2 h1.2 (sndE a g y h3.1) (sndE b g z h3.2)
    · cases h
  | .cut a lo hi, X, Z, n, k, g, x, h => by
    unfold chkE at h
    split at h
    · have h1 := and2 h
      have h2 := and2 h1.1
      exact PE.imp (pe_slice ok_cut (sndE a g _ h2.1) (sndO lo g _ h2.2) (sndO hi g _ h1.2)) fun σ H Q q => imp_cut q
    all_goals cases h
  | .rev a, X, Z, n, k, g, x, h => by
    unfold chkE at h
    split at h
    · have h1 := and2 h
      have h2 := of_decide_eq_true h1.2
      subst h2
      exact PE.imp (pe_revL (sndE a g _ h1.1)) fun σ H Q q => imp_rev q
    all_goals cases h
  | .and a b, X, Z, n, k, g, x, h => by
    unfold chkE at h
    split at h
    · have h1 := and2 h
      have h2 := h1.2
      split at h2
      · exact PE.imp (pe_andT (sndE a g _ h1.1) (pe_one (sndE b g _ h2))) fun σ H Q q => imp_and q
      · exact PE.imp (pe_andT (sndE a g _ h1.1) (sndE b g _ h2)) fun σ H Q q => imp_and q
    all_goals cases h
  | .or a b, X, Z, n, k, g, x, h => by
    unfold chkE at h
    split at h
    · have h1 := and2 h
      have h2 := h1.2
      split at h2
      · exact PE.imp (pe_orT (sndE a g _ h1.1) (pe_one (sndE b g _ h2))) fun σ H Q q => imp_or q
      · exact PE.imp (pe_orT (sndE a g _ h1.1) (sndE b g _ h2)) fun σ H Q q => imp_or q
    all_goals cases h
  | .not a, X, Z, n, k, g, x, h => by
    unfold chkE at h
    split at h
    · exact PE.imp (pe_notT (sndE a g _ h)) fun σ H Q q => imp_not q
    all_goals cases h
  | .ite t a b, X, Z, n, k, g, x, h => by
    unfold chkE at h
    split at h
    · have h1 := and2 h
      have h2 := and2 h1.1
      exact PE.imp (pe_ifExp (sndT t g _ h2.1) (sndE a g _ h2.2) (sndE b g _ h1.2)) fun σ H Q q => imp_ite q
    all_goals cases h
  | .call f es, X, Z, n, k, g, x, h => by
    unfold chkE at h
    split at h
    · rename_i y p z zs cp
      have h1 := and2 h
      have h2 := and2 h1.1
      have h3 := and2 h2.1
      have h4 := and2 h3.1
      have h5 := of_decide_eq_true h4.1
      subst h5
      obtain ⟨D, hD⟩ := Option.isSome_iff_exists.mp h1.2
      have hpl : plain z = true := by
        cases es with
        | nil => unfold chkL at h2; exact absurd h2.2 Bool.false_ne_true
        | cons e es =>
          have h6 := h2.2
          unfold chkL at h6
          exact (and2 (and2 h6).1).2
      have st := plain_star hpl zs X.env
      have hd : (f == ("__debug__" : Str)) = false := by
        have := h3.2
        rw [Bool.not_eq_true'] at this
        exact this
      rcases g.cal f D hD with rfl | c
      · refine ⟨fun pins s σ H Q I q => ?_⟩
        obtain ⟨A, r, F, o, r', ok, fit, hm, _⟩ := q
        unfold run at hm
        obtain ⟨io, _, hm⟩ := bindS hm
        obtain ⟨_, _, hm⟩ := bindS hm
        obtain ⟨_, _, hm⟩ := bindS hm
        obtain ⟨_, hz, hm⟩ := bindS hm
        cases hz
      · obtain ⟨fa, fd, ps, hF, hm, kp, bd⟩ := c.ex
        exact PE.imp (pe_call hF g.room (g.gl h4.2) hm kp bd .nil pass0 (sndA es D.io g _ h2.2) hd st (by
          cases es with
          | nil => unfold chkL at h2; exact absurd h2.2 Bool.false_ne_true
          | cons e es =>
            have h6 := h2.2
            unfold chkL at h6
            exact plains_any es Z zs (and2 h6).2 X.env cp)) fun σ H Q q => imp_call (phi_io hD) (phi_len hD) q
    all_goals cases h
  | .callB f es, X, Z, n, k, g, x, h => by
    unfold chkE at h
    split at h
    · rename_i y p z zs cp
      have h1 := and2 h
      have h2 := and2 h1.1
      have h3 := and2 h2.1
      have h4 := and2 h3.1
      have h5 := of_decide_eq_true h4.1
      subst h5
      obtain ⟨D, hD, hi⟩ : ∃ D, Z.T.lookup f = some D ∧ D.io = none := by
        have h9 := h1.2
        split at h9
        · rename_i D hD
          exact ⟨D, hD, Option.isNone_iff_eq_none.mp h9⟩
        · cases h9
      have hpl : plain z = true := by
        cases es with
        | nil => unfold chkL at h2; exact absurd h2.2 Bool.false_ne_true
        | cons e es =>
          have h6 := h2.2
          unfold chkL at h6
          exact (and2 (and2 h6).1).2
      have st := plain_star hpl zs X.env
      have hd : (f == ("__debug__" : Str)) = false := by
        have := h3.2
        rw [Bool.not_eq_true'] at this
        exact this
      rcases g.cal f D hD with rfl | c
      · refine ⟨fun pins s σ H Q I q => ?_⟩
        obtain ⟨A, r, F, o, r', ok, fit, hm, _⟩ := q
        unfold run at hm
        obtain ⟨io, _, hm⟩ := bindS hm
        split at hm
        · obtain ⟨_, _, hm⟩ := bindS hm
          obtain ⟨_, _, hm⟩ := bindS hm
          obtain ⟨_, hz, hm⟩ := bindS hm
          cases hz
        · cases hm
      · rw [hi] at c
        obtain ⟨fa, fd, ps, hF, hm, kp, bd⟩ := c.ex
        exact PE.imp (pe_call hF g.room (g.gl h4.2) hm kp bd .nil pass0 (sndH es g _ h2.2) hd st (by
          cases es with
          | nil => unfold chkL at h2; exact absurd h2.2 Bool.false_ne_true
          | cons e es =>
            have h6 := h2.2
            unfold chkL at h6
            exact plains_any es Z zs (and2 h6).2 X.env cp)) fun σ H Q q => imp_callB (by rw [phi_io hD, hi]) (phi_len hD) q
    all_goals cases h
  | .pop i a, X, Z, n, k, g, x, h => by
    unfold chkE at h
    split at h
    · have h1 := and2 h
      have h2 := and2 h1.1
      have h3 := and2 h2.1
      have h4 := and2 h3.1
      have h5 := of_decide_eq_true h4.2
      subst h5
      exact PE.imp (pe_method PySem.F.plainAttrs_list PySem.F.slot_list_pop PySem.F.type_list_pop mt_popAt (g.pvar h4.1) (sndE a g _ h2.2) rfl h1.2 h3.2) fun σ H Q q => imp_pop q
    all_goals cases h
  | .app i a, X, Z, n, k, g, x, h => by
    unfold chkE at h
    split at h
    · have h1 := and2 h
      have h2 := and2 h1.1
      have h3 := and2 h2.1
      have h4 := and2 h3.1
      have h5 := of_decide_eq_true h4.2
      subst h5
      exact PE.imp (pe_method PySem.F.plainAttrs_list PySem.F.slot_list_append PySem.F.type_list_append mt_append (g.pvar h4.1) (sndE a g _ h2.2) rfl h1.2 h3.2) fun σ H Q q => imp_app q
    all_goals cases h
  | .dct es, X, Z, n, k, g, x, h => by
    unfold chkE at h
    split at h
    · rename_i ks vs pos
      have h1 := and2 h
      obtain ⟨a1, a2, a3, a4⟩ := chkP_all Z es ks vs h1.1
      rcases a4 with rfl | a4
      · have h2 := h1.1
        unfold chkP at h2
        split at h2
        · exact PE.imp pe_dnewK fun σ H Q q => imp_dnew q
        · cases h2
      · have hu := g.room.units
        exact PE.imp (pe_dspD hu (sndP es g ks vs pos h1.1) a1 a2 a4 (of_decide_eq_true h1.2)) fun σ H Q q => imp_dct a3 q
    all_goals cases h
  | .setd i a b, X, Z, n, k, g, x, h => by
    unfold chkE at h
    split at h
    · have h1 := and2 h
      have h2 := and2 h1.1
      have h3 := and2 h2.1
      have h4 := and2 h3.1
      have h5 := and2 h4.1
      have h6 := and2 h5.1
      have h7 := of_decide_eq_true h6.2
      subst h7
      have hu := g.room.units
      exact PE.imp (pe_bmD PySem.F.slot_dict_setdefault PySem.F.type_dict_setdefault (mt_setd hu) (g.pvar h6.1) (pa_cons (sndE a g _ h4.2) (pa_cons (sndE b g _ h2.2) pa_nil (plain_star h1.2 _ X.env)) (plain_star h3.2 _ X.env)) (plain_base rfl _ X.env _) (few2 h3.2 h1.2 _ X.env) h5.2 (plain_star h3.2 _ X.env) (by rw [plain_star h1.2 [] X.env]; rfl)) fun σ H Q q => imp_setd q
    all_goals cases h
  | .ins i a b, X, Z, n, k, g, x, h => by
    unfold chkE at h
    split at h
    · have h1 := and2 h
      have h2 := and2 h1.1
      have h3 := and2 h2.1
      have h4 := and2 h3.1
      have h5 := and2 h4.1
      have h6 := and2 h5.1
      have h7 := of_decide_eq_true h6.2
      subst h7
      exact PE.imp (pe_bm (r := rIns) PySem.F.plainAttrs_list PySem.F.slot_list_insert PySem.F.type_list_insert mt_insert (g.pvar h6.1) (pa_cons (sndE a g _ h4.2) (pa_cons (sndE b g _ h2.2) pa_nil (plain_star h1.2 _ X.env)) (plain_star h3.2 _ X.env)) (plain_base rfl _ X.env _) (few2 h3.2 h1.2 _ X.env) h5.2 (plain_star h3.2 _ X.env) (by rw [plain_star h1.2 [] X.env]; rfl)) fun σ H Q q => imp_ins q
    all_goals cases h
  | .pop0 i, X, Z, n, k, g, x, h => by
    unfold chkE at h
    split at h
    · have h1 := and2 h
      have h2 := and2 h1.1
      have h7 := of_decide_eq_true h2.2
      subst h7
      exact PE.imp (pe_bm0 PySem.F.plainAttrs_list PySem.F.slot_list_pop PySem.F.type_list_pop mt_pop (g.pvar h2.1) (plain_base rfl _ X.env _) h1.2) fun σ H Q q => imp_pop0 q
    all_goals cases h
  | .ext i a, X, Z, n, k, g, x, h => by
    unfold chkE at h
    split at h
    · have h1 := and2 h
      have h2 := and2 h1.1
      have h3 := and2 h2.1
      have h4 := and2 h3.1
      have h5 := of_decide_eq_true h4.2
      subst h5
      exact PE.imp (pe_method PySem.F.plainAttrs_list PySem.F.slot_list_extend PySem.F.type_list_extend mt_extend (g.pvar h4.1) (sndE a g _ h2.2) rfl h1.2 h3.2) fun σ H Q q => imp_ext q
    all_goals cases h
  | .call0 f, X, Z, n, k, g, x, h => by
    unfold chkE at h
    split at h
    · have h1 := and2 h
      have h2 := and2 h1.1
      have h3 := and2 h2.1
      have h5 := of_decide_eq_true h3.1
      subst h5
      obtain ⟨D, hD, hi⟩ : ∃ D, Z.T.lookup f = some D ∧ D.io = none := by
        have h9 := h1.2
        split at h9
        · rename_i D hD
          exact ⟨D, hD, Option.isNone_iff_eq_none.mp h9⟩
        · cases h9
      have hd : (f == ("__debug__" : Str)) = false := by
        have := h2.2
        rw [Bool.not_eq_true'] at this
        exact this
      rcases g.cal f D hD with rfl | c
      · refine ⟨fun pins s σ H Q I q => ?_⟩
        obtain ⟨A, r, F, o, r', ok, fit, hm, _⟩ := q
        unfold run at hm
        obtain ⟨io, _, hm⟩ := bindS hm
        split at hm
        · obtain ⟨_, hz, hm⟩ := bindS hm
          cases hz
        · cases hm
      · rw [hi] at c
        obtain ⟨fa, fd, ps, hF, hm, kp, bd⟩ := c.ex
        exact PE.imp (pe_call0 hF g.room (g.gl h3.2) hm kp bd .nil pass0 hd) fun σ H Q q => imp_call0 (by rw [phi_io hD, hi]) (phi_len hD) q
    all_goals cases h
  | .step a lo st, X, Z, n, k, g, x, h => by
    unfold chkE at h
    split at h
    · have h1 := and2 h
      have h2 := and2 h1.1
      exact PE.imp (pe_step (sndE a g _ h2.1) (sndO lo g _ h2.2) (sndE st g _ h1.2)) fun σ H Q q => imp_step q
    all_goals cases h
  | .bor e, X, Z, n, k, g, x, h => by
    unfold chkE at h
    exact PE.imp (sndE e g x h) fun σ H Q q => imp_bor q
  | .comp own tg src c elt, X, Z, n, k, g, x, h => by
    unfold chkE at h
    split at h
    · have h1 := and2 h
      have h2 := and2 h1.1
      have h3 := and2 h2.1
      have h4 := and2 h3.1
      have h5 := and2 h4.1
      have h6 := and2 h5.1
      have h7 := and2 h6.1
      have ho : ∀ i ∈ tgSlots tg, i ∈ own := fun i hi => of_decide_eq_true (List.all_eq_true.mp h2.2 i hi)
      have hp : ∀ i ∈ Z.pro, i ∉ own := fun i hi => by
        have := List.all_eq_true.mp h1.2 i hi
        simpa using this
      refine PE.imp (t := tLc (rdI X.kw Z.pro (runI (Phi Z.T n k) src)) (gT X.kw tg) (rdT X.kw Z.pro (runOt (Phi Z.T n k) c)) (rdE X.kw Z.pro (run (Phi Z.T n k) elt)) ((ownP Z.N own).map (·.2))) (pe_lc (own := ownP Z.N own) g.calm (by rw [g.N]; exact g.nd) (sndI src g _ h6.2) (by rw [g.N, g.sc]; exact blkOk_by h7.1)
        (fun s H C cl fp => (g.blk h7.1 s H C cl fp).tg h7.2) (fun s H C cl fp => sndOt c (g.blk h7.1 s H C cl fp) _ h4.2) (fun s H C cl fp => sndE elt (g.blk h7.1 s H C cl fp) _ h3.2) (fun x => plain_fold h5.2 X.env x)) fun σ H Q q => ?_
      rw [ownP_snd]
      exact imp_comp ho hp q
    all_goals cases h
theorem sndL : ∀ (es : Es) {X : Cx} {Z : Sx} {n k : Nat} (g : GdX X Z n k) (xs : List Expr), chkL Z es xs = true → PA X xs (rdL X.kw Z.pro (runL (Phi Z.T n k) es))
  | .nil, X, Z, n, k, g, xs, h => by
    unfold chkL at h
    split at h
    · exact PA.imp pa_nil fun σ H Q q => imp_nil q
    all_goals cases h
  | .cons e es, X, Z, n, k, g, xs, h => by
    unfold chkL at h
    split at h
    · have h1 := and2 h
      have h2 := and2 h1.1
      exact PA.imp (pa_cons (sndE e g _ h2.1) (sndL es g _ h1.2) (plain_star h2.2 _ X.env)) fun σ H Q q => imp_cons q
    all_goals cases h
theorem sndP : ∀ (es : Es) {X : Cx} {Z : Sx} {n k : Nat} (g : GdX X Z n k) (ks : List (Option Expr)) (vs : List Expr) (pos : Pos), chkP Z es ks vs = true → PPs X pos ks vs (tprs X.kw Z.pro (Phi Z.T n k) es)
  | .nil, X, Z, n, k, g, ks, vs, pos, h => by
    unfold chkP at h
    split at h
    · exact pps_nil
    · cases h
  | .cons _ .nil, X, Z, n, k, g, ks, vs, pos, h => by
    unfold chkP at h
    cases h
  | .cons a (.cons b es), X, Z, n, k, g, ks, vs, pos, h => by
    unfold chkP at h
    split at h
    · have h1 := and2 h
      have h2 := and2 h1.1
      exact pps_cons (sndE a g _ h2.1) (sndE b g _ h2.2) (sndP es g _ _ pos h1.2)
    · cases h
theorem sndA : ∀ (es : Es) (io : Option Nat) {X : Cx} {Z : Sx} {n k : Nat} (g : GdX X Z n k) (xs : List Expr), chkL Z es xs = true → PA X xs (rdA X.kw Z.pro (runA (Phi Z.T n k) es io))
  | .nil, io, X, Z, n, k, g, xs, h => by
    unfold chkL at h
    split at h
    · exact PA.imp pa_nil fun σ H Q q => imp_anil q
    all_goals cases h
  | .cons e es, io, X, Z, n, k, g, xs, h => by
    unfold chkL at h
    split at h
    · have h1 := and2 h
      have h2 := and2 h1.1
      cases io with
      | none => exact PA.imp (pa_cons (sndE e g _ h2.1) (sndA es none g _ h1.2) (plain_star h2.2 _ X.env)) fun σ H Q q => imp_acons_fz (.inl ⟨rfl, rfl⟩) q
      | some j =>
        cases j with
        | zero => exact PA.imp (pa_cons (sndE e g _ h2.1) (sndA es none g _ h1.2) (plain_star h2.2 _ X.env)) fun σ H Q q => imp_acons_io q
        | succ j => exact PA.imp (pa_cons (sndE e g _ h2.1) (sndA es (some j) g _ h1.2) (plain_star h2.2 _ X.env)) fun σ H Q q => imp_acons_fz (.inr ⟨j, rfl, rfl⟩) q
    all_goals cases h
theorem sndH : ∀ (es : Es) {X : Cx} {Z : Sx} {n k : Nat} (g : GdX X Z n k) (xs : List Expr), chkL Z es xs = true → PA X xs (rdH X.kw Z.pro (runP (Phi Z.T n k) es))
  | .nil, X, Z, n, k, g, xs, h => by
    unfold chkL at h
    split at h
    · exact PA.imp pa_nil fun σ H Q q => imp_hnil q
    all_goals cases h
  | .cons e es, X, Z, n, k, g, xs, h => by
    unfold chkL at h
    split at h
    · have h1 := and2 h
      have h2 := and2 h1.1
      exact PA.imp (pa_cons (sndE e g _ h2.1) (sndH es g _ h1.2) (plain_star h2.2 _ X.env)) fun σ H Q q => imp_hcons q
    all_goals cases h
theorem sndO : ∀ (e : Oe) {X : Cx} {Z : Sx} {n k : Nat} (g : GdX X Z n k) (x : Option Expr), chkO Z e x = true → PO X x (rdO X.kw Z.pro (runO (Phi Z.T n k) e))
  | .no, X, Z, n, k, g, x, h => by
    unfold chkO at h
    split at h
    · exact ⟨fun pins s σ H Q I q => po_none.run pins s σ H Q I (imp_no q)⟩
    all_goals cases h
  | .yes e, X, Z, n, k, g, x, h => by
    unfold chkO at h
    split at h
    · exact ⟨fun pins s σ H Q I q => (po_some (sndE e g _ h)).run pins s σ H Q I (imp_yes q)⟩
    all_goals cases h
theorem sndOt : ∀ (t : Ot) {X : Cx} {Z : Sx} {n k : Nat} (g : GdX X Z n k) (xs : List Expr), chkOt Z t xs = true → PTs X xs (rdT X.kw Z.pro (runOt (Phi Z.T n k) t))
  | .no, X, Z, n, k, g, xs, h => by
    unfold chkOt at h
    split at h
    · refine ⟨fun pins s σ H Q I q => pts_nil.run pins s σ H Q I ?_⟩
      obtain ⟨A, r, F, b, r', ok, fit, hm, q⟩ := q
      unfold runOt at hm
      cases hm
      exact q F H (Same.refl F) fit
    all_goals cases h
  | .yes t, X, Z, n, k, g, xs, h => by
    unfold chkOt at h
    split at h
    · refine ⟨fun pins s σ H Q I q => (pts_one (sndT t g _ h)).run pins s σ H Q I ?_⟩
      unfold runOt at q
      exact q
    all_goals cases h
theorem sndT : ∀ (t : T) {X : Cx} {Z : Sx} {n k : Nat} (g : GdX X Z n k) (x : Expr), chkT Z t x = true → PT X x (rdT X.kw Z.pro (runT (Phi Z.T n k) t))
  | .val e, X, Z, n, k, g, x, h => by
    unfold chkT at h
    have h1 := and2 h
    exact PT.imp (pt_truth (sndE e g x h1.2) (tru_is h1.1 X.env)) fun σ H Q q => imp_tval q
  | .cmp op a b, X, Z, n, k, g, x, h => by
    unfold chkT at h
    split at h
    · rename_i y z hs
      have h1 := and2 h
      have h2 := and2 h1.1
      have h3 := and2 h2.1
      have h4 := and2 h3.1
      exact sndCmp g h4.1 hs h1.2 (sndE a g y h4.2) (sndE b g z h3.2)
    · cases h
  | .not t, X, Z, n, k, g, x, h => by
    unfold chkT at h
    split at h
    · exact PT.imp (pt_not (sndT t g _ h)) fun σ H Q q => imp_tnot q
    all_goals cases h
  | .and a b, X, Z, n, k, g, x, h => by
    unfold chkT at h
    split at h
    · have h1 := and2 h
      have h2 := h1.2
      split at h2
      · exact PT.imp (pw_and (sndT a g _ h1.1) (pw_and1 (sndT b g _ h2))).pt fun σ H Q q => imp_tand q
      · exact PT.imp (pw_and (sndT a g _ h1.1) (pw_of (sndT b g _ h2))).pt fun σ H Q q => imp_tand q
    all_goals cases h
  | .or a b, X, Z, n, k, g, x, h => by
    unfold chkT at h
    split at h
    · have h1 := and2 h
      have h2 := h1.2
      split at h2
      · exact PT.imp (pw_or (sndT a g _ h1.1) (pw_or1 (sndT b g _ h2))).pt fun σ H Q q => imp_tor q
      · exact PT.imp (pw_or (sndT a g _ h1.1) (pw_of (sndT b g _ h2))).pt fun σ H Q q => imp_tor q
    all_goals cases h
theorem sndI : ∀ (s : Src) {X : Cx} {Z : Sx} {n k : Nat} (g : GdX X Z n k) (x : Expr) {tg : Expr}, chkI Z s tg x = true → PI X tg x (rdI X.kw Z.pro (runI (Phi Z.T n k) s))
  | .seq e, X, Z, n, k, g, x, tg, h => by
    unfold chkI at h
    exact pi_seq rfl (sndE e g x h)
  | .rng1 a, X, Z, n, k, g, x, tg, h => by
    unfold chkI at h
    split at h
    · have h1 := and2 h
      have h2 := and2 h1.1
      obtain ⟨rfl, g1⟩ := g.glob h2.1
      have st := plain_star h1.2 [] X.env
      exact ⟨fun pins s σ H R I q => (pi_range1 g1 (g.bi _ (by decide)) (pa_cons (sndE a g _ h2.2) pa_nil st) st).run pins s σ H R I (imp_rng1 q)⟩
    all_goals cases h
  | .rng2 a b, X, Z, n, k, g, x, tg, h => by
    unfold chkI at h
    split at h
    · have h1 := and2 h
      have h2 := and2 h1.1
      have h3 := and2 h2.1
      have h4 := and2 h3.1
      obtain ⟨rfl, g1⟩ := g.glob h4.1
      have st := plain_star h1.2 [] X.env
      exact ⟨fun pins s σ H R I q => (pi_range2 g1 (g.bi _ (by decide)) (pa_cons (sndE a g _ h4.2) (pa_cons (sndE b g _ h3.2) pa_nil st) (plain_star h2.2 _ X.env)) (by rw [plain_star h2.2, st]; rfl) st).run pins s σ H R I (imp_rng2 q)⟩
    all_goals cases h
  | .zip es, X, Z, n, k, g, x, tg, h => by
    unfold chkI at h
    split at h
    · have h1 := and2 h
      have h2 := and2 h1.1
      have h3 := and2 h2.1
      have h4 := and2 h3.1
      cases tg with
      | Tuple ts kk p =>
        obtain ⟨rfl, g1⟩ := g.glob h4.2
        exact ⟨fun pins s σ H R I q => (pi_zip2 g1 (g.bi _ (by decide)) (sndL es g _ h3.2) (plain_star h2.2 _ X.env) (by rw [plain_star h1.2 [] X.env]; rfl)).run pins s σ H R I (imp_zip q)⟩
      | _ => cases h4.1
    all_goals cases h
  | .enm es, X, Z, n, k, g, x, tg, h => by
    unfold chkI at h
    split at h
    · have h1 := and2 h
      have h2 := and2 h1.1
      have h3 := and2 h2.1
      cases tg with
      | Tuple ts kk p =>
        obtain ⟨rfl, g1⟩ := g.glob h3.2
        exact ⟨fun pins s σ H R I q => (pi_enum2 g1 (g.bi _ (by decide)) (sndL es g _ h2.2) (plain_star h1.2 _ X.env)).run pins s σ H R I (imp_enm q)⟩
      | _ => cases h3.1
    all_goals cases h
  | .rng3 es, X, Z, n, k, g, x, tg, h => by
    unfold chkI at h
    split at h
    · have h1 := and2 h
      have h2 := and2 h1.1
      have h3 := and2 h2.1
      have h4 := and2 h3.1
      obtain ⟨rfl, g1⟩ := g.glob h4.1
      exact ⟨fun pins s σ H R I q => (pi_range3 g1 (g.bi _ (by decide)) (sndL es g _ h4.2) (plain_star h3.2 _ X.env) (by rw [plain_star h2.2, plain_star h1.2]; rfl)).run pins s σ H R I (imp_rng3 q)⟩
    all_goals cases h
end
end Dl

/-! D9: statements, defs, the whole text. -/
namespace Dl
open PySem PySem.Spec PyProof.Rows L2

section
variable {X : Cx} {Z : Sx} {n k : Nat}
theorem noTup_sw {ts : List Expr} {kk : Nat} {p : Pos} {e : Expr} (h : noTup e = true) (env : Env) : swappedStores [.Tuple ts kk p] e env = pure none := by
  cases e with
  | Tuple a b c => cases h
  | _ => rfl
theorem tup_sole {ts : List Expr} {kk : Nat} {p : Pos} (e : Expr) (l : Nat) (env : Env) : swapsWithSole [.Tuple ts kk p] e l env = pure false := by
  cases e <;> rfl
theorem sub_sole {o i : Expr} {p : Pos} (e : Expr) (l : Nat) (env : Env) : swapsWithSole [.Subscript o i p] e l env = pure false := by
  cases e <;> rfl
theorem sub_sw {o i : Expr} {p : Pos} (e : Expr) (env : Env) : swappedStores [.Subscript o i p] e env = pure none := by
  cases e <;> rfl
/-- x += y, whole numbers or texts -/
theorem ip_plus : PIp X .Add (fun x y H Q => (∃ a b, x = V.int a ∧ y = V.int b ∧ Q (V.int (a + b)) H) ∨ (∃ a b, x = V.str a ∧ y = V.str b ∧ a.length + b.length ≤ sizeLine ∧ Q (V.str (a ++ b)) H)) := by
  intro pins s σ H x y v u Q I r1 r2 h
  rcases h with ⟨a, b, e1, e2, q⟩ | ⟨a, b, e1, e2, hl, q⟩
  · exact ip_add pins s σ H x y v u Q I r1 r2 ⟨a, b, e1, e2, q⟩
  · exact iop_add_str pins s σ H x y v u Q I r1 r2 ⟨a, b, e1, e2, hl, q⟩
theorem plain_sub {o i : Expr} {p : Pos} {env : Env} (h : plain i = true) (v : Value) : assign (.Subscript o i p) env v = (do
      let ov ← holding [v] (eval o env)
      let iv ← holding [v, ov] (eval i env)
      standAt p
      holding [v, ov, iv] (setItem ov iv v)
      release [v, ov, iv] []) := by
  cases i with
  | Slice a b c d => cases h
  | _ => rfl
/-- name = [..] -/
theorem sndSetC (g : GdX X Z n k) {i : Nat} {own : List Nat} {tg : Tg} {src : Src} {c : Ot} {elt : E} {x : Str} {px sp : Pos} {y : Expr} (h1 : chkN Z i x = true) (h2 : stB Z.raw x = true) (h : chkE Z (.comp own tg src c elt) y = true) :
    PS X (.Assign [.Name x px] y sp) (tAsg (rdE X.kw Z.pro (run (Phi Z.T n k) (.comp own tg src c elt))) (gName i)) := by
  have hi : X.N[i]? = some x := by rw [g.N]; exact of_decide_eq_true h1
  have nd : X.N.Nodup := by rw [g.N]; exact g.nd
  obtain ⟨s1, s2⟩ := g.st x h2
  have pe := sndE _ g y h
  unfold chkE at h
  split at h
  · rename_i el t it ifs scope pos
    by_cases hw : (X.env.blockKind == .function && X.env.kindOf x == some .local && px.line == pos.line && !(scope.names.any fun (n, k) => n == x && (k == .local || k == .cell))) = true
    · have hsw : swapsWith (.ListComp el [⟨t, it, ifs, 0⟩] scope pos) (some (.Name x px)) sp.line X.env = pure true := by
        show pure _ = _
        exact congrArg pure hw
      have hl : X.env.scope.names.lookup x = some .local := by
        have := (and2 (and2 (and2 hw).1).1).2
        exact eq_of_beq this
      have h1 := and2 h
      have h2 := and2 h1.1
      have h3 := and2 h2.1
      have h4 := and2 h3.1
      have h5 := and2 h4.1
      have h6 := and2 h5.1
      have h7 := and2 h6.1
      have ho : ∀ i ∈ tgSlots tg, i ∈ own := fun i hi => of_decide_eq_true (List.all_eq_true.mp h2.2 i hi)
      have hp : ∀ i ∈ Z.pro, i ∉ own := fun i hi => by
        have := List.all_eq_true.mp h1.2 i hi
        simpa using this
      refine PS.imp (t := tAsg (tLc (rdI X.kw Z.pro (runI (Phi Z.T n k) src)) (gT X.kw tg) (rdT X.kw Z.pro (runOt (Phi Z.T n k) c)) (rdE X.kw Z.pro (run (Phi Z.T n k) elt)) ((ownP Z.N own).map (·.2))) (gName i)) (ps_setLc (own := ownP Z.N own) g.calm nd hi hl hsw (sndI src g _ h6.2) (by rw [g.N, g.sc]; exact blkOk_by h7.1)
        (fun s H C cl fp => (g.blk h7.1 s H C cl fp).tg h7.2) (fun s H C cl fp => sndOt c (g.blk h7.1 s H C cl fp) _ h4.2) (fun s H C cl fp => sndE elt (g.blk h7.1 s H C cl fp) _ h3.2) (fun x => plain_fold h5.2 X.env x)) fun D σ H q => ?_
      rw [ownP_snd]
      exact imp_comp ho hp q
    · have hsw : swapsWith (.ListComp el [⟨t, it, ifs, 0⟩] scope pos) (some (.Name x px)) sp.line X.env = pure false := by
        show pure _ = _
        exact congrArg pure ((Bool.not_eq_true _).mp hw)
      exact ps_set nd hi s1 pe hsw s2
  · cases h
mutual
theorem sndS : ∀ (s : S) {X : Cx} {Z : Sx} {n k : Nat} (g : GdX X Z n k) (x : Stmt), chkS Z s x = true → PS X x (rdS X.kw Z.pro (runS (Phi Z.T n k) n s))
  | .expr e, X, Z, n, k, g, x, h => by
    unfold chkS at h
    split at h
    · have h1 := and2 h
      exact PS.imp (ps_expr (sndE e g _ h1.1) (noComp_sw h1.2 _ _ _)) fun D σ H q => imp_expr q
    · cases h
  | .set i e, X, Z, n, k, g, x, h => by
    unfold chkS at h
    split at h
    · rename_i x px y sp
      have h0 := and2 h
      have h1 := and2 h0.1
      have h2 := and2 h1.1
      have h3 := and2 h2.1
      have hp : i ∉ Z.pro := by simpa using h2.2
      have hi : X.N[i]? = some x := by rw [g.N]; exact of_decide_eq_true h3.1
      have nd : X.N.Nodup := by rw [g.N]; exact g.nd
      obtain ⟨s1, s2⟩ := g.st x h3.2
      by_cases hc : noComp y = true
      · exact PS.imp (ps_set nd hi s1 (sndE e g _ h1.2) (noComp_sw hc _ _ _) s2) fun D σ H q => imp_set hp q
      · have hc2 : isComp e = true := by
          have := h0.2
          rw [Bool.or_eq_true] at this
          exact this.resolve_left hc
        cases e with
        | comp own tg src c elt => exact PS.imp (sndSetC g h3.1 h3.2 h1.2) fun D σ H q => imp_set hp q
        | _ => cases hc2
    · cases h
  | .unp is e, X, Z, n, k, g, x, h => by
    unfold chkS at h
    split at h
    · have h1 := and2 h
      have h2 := and2 h1.1
      have h3 := and2 h2.1
      have hp : ∀ i ∈ Z.pro, i ∉ is := fun i hi => by
        have := List.all_eq_true.mp h1.2 i hi
        simpa using this
      exact PS.imp (ps_asg (sndE e g _ h3.2) (g.tg (tg := .tup is) h3.1) (tup_sole _ _ _) (noTup_sw h2.2 _) rfl) fun D σ H q => imp_unp hp q
    · cases h
  | .setAt i ix e, X, Z, n, k, g, x, h => by
    unfold chkS at h
    split at h
    · have h1 := and2 h
      have h2 := and2 h1.1
      have h3 := and2 h2.1
      exact PS.imp (ps_asg (sndE e g _ h1.2) (pg_sub (g.pvar h3.1) (sndE ix g _ h3.2) (set_dl g.room.units) (plain_sub h2.2)) (sub_sole _ _ _) (sub_sw _ _) rfl) fun D σ H q => imp_setAt q
    · cases h
  | .aug i op e, X, Z, n, k, g, x, h => by
    unfold chkS at h
    split at h
    · rename_i x px y sp
      have h1 := and2 h
      have h2 := and2 h1.1
      have h3 := and2 h2.1
      have h4 := and2 h3.1
      have hp : i ∉ Z.pro := by simpa using h2.2
      have hk := of_decide_eq_true h4.1
      subst hk
      obtain ⟨s1, s2⟩ := g.st x h3.2
      refine PS.imp (ps_aug (by rw [g.N]; exact g.nd) (by rw [g.N]; exact of_decide_eq_true h4.2) s1 (sndE e g _ h1.2) ip_plus s2) fun D σ H q => imp_aug hp (fun x y H Q z => ?_) q
      rcases z with ⟨a, b, e1, e2, ⟨_, z⟩ | ⟨z, _⟩⟩ | ⟨a, b, e1, e2, _, hl, z⟩
      · exact .inl ⟨a, b, e1, e2, z⟩
      · cases z
      · exact .inr ⟨a, b, e1, e2, hl, z⟩
    · rename_i x px y sp
      have h1 := and2 h
      have h2 := and2 h1.1
      have h3 := and2 h2.1
      have h4 := and2 h3.1
      have hp : i ∉ Z.pro := by simpa using h2.2
      have hk := of_decide_eq_true h4.1
      subst hk
      obtain ⟨s1, s2⟩ := g.st x h3.2
      refine PS.imp (ps_aug (by rw [g.N]; exact g.nd) (by rw [g.N]; exact of_decide_eq_true h4.2) s1 (sndE e g _ h1.2) ip_sub s2) fun D σ H q => imp_aug hp (fun x y H Q z => ?_) q
      rcases z with ⟨a, b, e1, e2, ⟨z, _⟩ | ⟨_, z⟩⟩ | ⟨a, b, e1, e2, z, _⟩
      · cases z
      · exact ⟨a, b, e1, e2, z⟩
      · cases z
    · cases h
  | .ife t a b, X, Z, n, k, g, x, h => by
    unfold chkS at h
    split at h
    · have h1 := and2 h
      have h2 := and2 h1.1
      exact PS.imp (ps_if (sndT t g _ h2.1) (sndB a g _ h2.2) (sndB b g _ h1.2)) fun D σ H q => imp_ife q
    · cases h
  | .for_ tg src body wp, X, Z, n, k, g, x, h => by
    unfold chkS at h
    split at h
    · have h1 := and2 h
      have h2 := and2 h1.1
      have h3 := and2 h2.1
      have h4 := and2 h3.1
      have hp : ∀ i ∈ Z.pro, i ∉ tgSlots tg := fun i hi => by
        have := List.all_eq_true.mp h1.2 i hi
        simpa using this
      exact PS.imp (ps_for g.pa g.calm (sndI src g _ h4.2) (g.tg h4.1) (sndB body g _ h2.2) (fun x => plain_fold h3.2 X.env x)) fun D σ H q => imp_for hp q
    · cases h
  | .whl t body wp, X, Z, n, k, g, x, h => by
    unfold chkS at h
    split at h
    · have h1 := and2 h
      exact PS.imp (ps_while g.pa (sndT t g _ h1.1) (sndB body g _ h1.2)) fun D σ H q => imp_whl q
    · cases h
  | .ret e, X, Z, n, k, g, x, h => by
    unfold chkS at h
    split at h
    · exact PS.imp (ps_ret (sndE e g _ h)) fun D σ H q => imp_ret q
    · cases h
  | .retN, X, Z, n, k, g, x, h => by
    unfold chkS at h
    split at h
    · exact PS.imp ps_retN fun D σ H q => imp_retN q
    · cases h
  | .pass, X, Z, n, k, g, x, h => by
    unfold chkS at h
    split at h
    · exact PS.imp ps_pass fun D σ H q => imp_next (fun r => by unfold runS; rfl) q
    · cases h
  | .brk, X, Z, n, k, g, x, h => by
    unfold chkS at h
    split at h
    · exact PS.imp ps_break fun D σ H q => imp_brk q
    · cases h
  | .cont, X, Z, n, k, g, x, h => by
    unfold chkS at h
    split at h
    · exact PS.imp ps_continue fun D σ H q => imp_cont q
    · cases h
theorem sndB : ∀ (ss : Ss) {X : Cx} {Z : Sx} {n k : Nat} (g : GdX X Z n k) (xs : List Stmt), chkB Z ss xs = true → PSs X xs (rdS X.kw Z.pro (runB (Phi Z.T n k) n ss))
  | .nil, X, Z, n, k, g, xs, h => by
    unfold chkB at h
    split at h
    · exact PSs.imp pss_nil fun D σ H q => imp_bnil q
    · cases h
  | .cons s ss, X, Z, n, k, g, xs, h => by
    unfold chkB at h
    split at h
    · have h1 := and2 h
      exact PSs.imp (pss_cons (sndS s g _ h1.1) (sndB ss g _ h1.2)) fun D σ H q => imp_bcons q
    · cases h
end
end

/-! ### defs -/
def proOf (io : Option Nat) (vs : List V) : List (Nat × V) := match io with
  | none => []
  | some i => match vs[i]? with
    | some v => [(i, v)]
    | none => []
def proN (io : Option Nat) : List Nat := match io with
  | none => []
  | some i => [i]
theorem pro_in {io : Option Nat} {vs : List V} {p : Nat × V} (h : p ∈ proOf io vs) : io = some p.1 ∧ vs[p.1]? = some p.2 := by
  unfold proOf at h
  cases io with
  | none => cases h
  | some i =>
    dsimp only at h
    cases hv : vs[i]? with
    | none => rw [hv] at h; cases h
    | some v =>
      rw [hv] at h
      have e := List.mem_singleton.mp h
      subst e
      exact ⟨rfl, hv⟩
theorem start_get {N : List Str} {vs : List V} {i : Nat} {v : V} (h : vs[i]? = some v) : (L2.start N vs)[i]? = some (some v) := by
  unfold L2.start
  have hi := (List.getElem?_eq_some_iff.mp h).1
  rw [List.getElem?_append_left (by rw [List.length_map]; exact hi), List.getElem?_map, h]
  rfl
theorem startR_get {D : Df} {ds : List Dat} {i : Nat} {s : Sl} (h : (startR D ds)[i]? = some (some s)) : ∃ d, ds[i]? = some d ∧ s = ⟨d, if D.io = some i then .io else .fz⟩ := by
  unfold startR at h
  by_cases hi : i < ds.length
  · rw [List.getElem?_append_left (by rw [List.length_mapIdx]; exact hi), List.getElem?_mapIdx, List.getElem?_eq_getElem hi] at h
    exact ⟨ds[i], List.getElem?_eq_getElem hi, (Option.some.inj (Option.some.inj h)).symm⟩
  · rw [List.getElem?_append_right (by rw [List.length_mapIdx]; omega), List.getElem?_replicate] at h
    split at h
    · cases h
    · cases h
theorem fit_start {K : Kw} {D : Df} {F H : Hp} {ds : List Dat} {vs : List V} (a : ArgsOk K D.io D.ps F H ds vs) : Fit ⟨K, H, F, IoA D.io vs, proOf D.io vs⟩ (startR D ds) F (L2.start D.N vs) H := by
  have lent : ∀ b, IoA D.io vs b → ∃ d, F b = none ∧ Own K F H b d := fun b z => by
    obtain ⟨i, hi, hv⟩ := z
    have hl := (List.getElem?_eq_some_iff.mp hv).1
    have hd : i < ds.length := by rw [a.ld, ← a.lv]; exact hl
    obtain ⟨x, e, h1, h2⟩ := a.lent i ds[i] _ (List.getElem?_eq_getElem hd) hv hi
    cases e
    exact ⟨ds[i], h1, h2⟩
  refine ⟨a.sub, fun b o e _ => e, fun b o e => .inl e, Same.refl F, fun b z => ?_, fun i s e => ?_, fun i j s t b n e1 m1 e2 m2 => ?_, fun p hp => start_get (pro_in hp).2, ?_⟩
  · obtain ⟨d, _, h2⟩ := lent b z
    exact Own.there h2
  · obtain ⟨d, hd, rfl⟩ := startR_get e
    have hl := (List.getElem?_eq_some_iff.mp hd).1
    have hv : i < vs.length := by rw [a.lv, ← a.ld]; exact hl
    refine ⟨vs[i], start_get (List.getElem?_eq_getElem hv), ?_⟩
    unfold SlotOk
    by_cases hio : D.io = some i
    · simp only [if_pos hio]
      obtain ⟨b, eb, h1, h2⟩ := a.lent i d _ hd (List.getElem?_eq_getElem hv) hio
      exact ⟨b, eb, h1, ⟨i, hio, by rw [List.getElem?_eq_getElem hv, eb]⟩, h2⟩
    · simp only [if_neg hio]
      exact a.fz i d _ hd (List.getElem?_eq_getElem hv) hio
  · obtain ⟨d, hd, rfl⟩ := startR_get e1
    obtain ⟨d', hd', rfl⟩ := startR_get e2
    by_cases h1 : D.io = some i
    · by_cases h2 : D.io = some j
      · rw [h1] at h2
        cases h2
        exact absurd rfl n
      · simp only [if_neg h2] at m2
        exact absurd rfl m2
    · simp only [if_neg h1] at m1
      exact absurd rfl m1
  · unfold startR L2.start
    rw [List.length_append, List.length_append, List.length_mapIdx, List.length_map, List.length_replicate, List.length_replicate, a.ld, a.lv]

/-- what stands of a def behind the top -/
structure DefAt (P : Program) (K : PySem.W.Frag) (mg : Str → Option Value) (T : List (Str × Df)) (f : Str) (D : Df) : Prop where
  ex : ∃ (st : Stmt) (fa : Addr) (fd : FuncData), Fun K f f st fa fd ∧ mg f = some (.ref fa) ∧ Binds K fd (D.N.take D.ps) [] ∧ FnScope D.N (D.N.take D.ps) (defScope st) ∧ D.ps ≤ D.N.length ∧
    chkB ⟨D.N, defScope st, defScope st, proN D.io, T⟩ D.body (defBody st) = true

theorem def_ok {P : Program} {w : World} {K : PySem.W.Frag} {mg : Str → Option Value} {base : Heap} {T : List (Str × Df)} {n k : Nat} {f : Str} {D : Df} {st : Stmt} {fa : Addr} {fd : FuncData} (F : Fun K f f st fa fd) (S : FnScope D.N (D.N.take D.ps) (defScope st)) (hps : D.ps ≤ D.N.length)
    (hc : chkB ⟨D.N, defScope st, defScope st, proN D.io, T⟩ D.body (defBody st) = true) (hT : T.lookup f = some D) (bi : ∀ x ∈ bnames, mg x = none)
    (cal : ∀ f D, T.lookup f = some D → k = 0 ∨ Cal P w K mg base k f (spD ⟨K, w⟩ D.io D.ps ((Phi T n k).phi f))) : FnOk P w K mg base CX0 (k + 1) fa fd (D.N.take D.ps) (spD ⟨K, w⟩ D.io D.ps ((Phi T n (k + 1)).phi f)) := by
  refine F.ok S (fun vs H Q E h => ?_) (fun cdv A outer s H vs Q E hr h => ?_)
  · obtain ⟨_, _, _, _, _, a, _⟩ := h
    rw [a.lv, List.length_take]
    omega
  · obtain ⟨F0, ds, o, d, hp, a, q⟩ := h
    have hp : (match T.lookup f with | some D => runD (Phi T n k) n D ds | none => none) = some (o, d) := hp
    rw [hT] at hp
    have hp : runD (Phi T n k) n D ds = some (o, d) := hp
    have g : GdX (cxOf CX0 P w K mg base D.N f (defScope st) fa cdv A outer s H E).nox ⟨D.N, defScope st, defScope st, proN D.io, T⟩ n k := by
      refine ⟨rfl, S.nd, rfl, fun x hx => ?_, rfl, hr, PassesOwn.never, bi, cal, S.kind⟩
      refine ⟨?_, .inl rfl⟩
      unfold stB at hx
      show Loc (defScope st) x
      split at hx
      · rename_i e; exact .inl e
      · rename_i e; exact .inr e
      · cases hx
    refine ⟨_, sndB D.body g _ hc, ?_⟩
    have fit := fit_start a
    have ok : Ok ⟨K, w⟩ (proN D.io) ⟨⟨K, w⟩, H, F0, IoA D.io vs, proOf D.io vs⟩ := ⟨rfl, fun p hpp => by
      have := (pro_in hpp).1
      unfold proN
      rw [this]
      exact List.mem_singleton.mpr rfl⟩
    unfold runD at hp
    split at hp
    · -- what is left behind
      have left : ∀ {r : Rho} {σ' : L2.St} {F' H' : Hp}, leftR D r = some d → Same F0 F' → Fit ⟨⟨K, w⟩, H, F0, IoA D.io vs, proOf D.io vs⟩ r F' σ' H' → ∀ b, IoA D.io vs b → F' b = none ∧ Own ⟨K, w⟩ F' H' b d := by
        intro r σ' F' H' hl sf f' b hb
        obtain ⟨i, hi, hv⟩ := hb
        unfold leftR at hl
        rw [hi] at hl
        dsimp only at hl
        split at hl
        · rename_i x hx
          cases hl
          obtain ⟨v, e1, e2⟩ := f'.slot i _ (look_some hx)
          have hpr := f'.pro (i, .ref b) (by
            show (i, V.ref b) ∈ proOf D.io vs
            unfold proOf
            rw [hi]
            dsimp only
            rw [hv]
            exact List.mem_singleton.mpr rfl)
          rw [hpr] at e1
          cases e1
          obtain ⟨c, ec, h1, h2, h3⟩ := e2
          cases ec
          exact ⟨h1, h3⟩
        · cases hl
      have post : ∀ {r : Rho} {σ' : L2.St} {F' H' : Hp} {v : V}, leftR D r = some d → Same F0 F' → Fit ⟨⟨K, w⟩, H, F0, IoA D.io vs, proOf D.io vs⟩ r F' σ' H' → ResOk ⟨K, w⟩ H F' H' o v → Q v H' := by
        intro r σ' F' H' v hl sf f' hr
        exact q v F' H' ⟨sf, f'.sub, f'.keep, f'.newf, left hl sf f', hr⟩
      cases hb : runB (Phi T n k) n D.body (startR D ds) with
      | none => rw [hb] at hp; cases hp
      | some fl =>
        rw [hb] at hp
        refine ⟨_, startR D ds, F0, fl, ok, fit, hb, ?_⟩
        cases fl with
        | next r =>
          obtain ⟨x, hl, hp⟩ := bindS hp
          cases hp
          exact fun σ' F' H' sf f' => post hl sf f' rfl
        | brk r => cases hp
        | cont r => cases hp
        | ret oo r =>
          cases oo with
          | val x =>
            obtain ⟨y, hl, hp⟩ := bindS hp
            cases hp
            exact fun v σ' F' H' sf f' k' => post hl sf f' k'
          | fresh x =>
            obtain ⟨y, hl, hp⟩ := bindS hp
            cases hp
            intro v σ' F' H' sf f' k'
            obtain ⟨b, e1, e2, e3, e4, e5, e6⟩ := k'
            exact post hl sf f' ⟨b, e1, e2, e3, e5⟩
          | place j =>
            dsimp only at hp
            split at hp
            · rename_i x hx
              obtain ⟨y, hl, hp⟩ := bindS hp
              cases hp
              intro v σ' F' H' sf f' k'
              obtain ⟨u, e1, e2⟩ := f'.slot j _ (look_some hx)
              rw [show σ'[j]? = some (some v) from k'] at e1
              cases e1
              exact post hl sf f' e2
            · rename_i x hx
              obtain ⟨y, hl, hp⟩ := bindS hp
              cases hp
              intro v σ' F' H' sf f' k'
              obtain ⟨u, e1, e2⟩ := f'.slot j _ (look_some hx)
              rw [show σ'[j]? = some (some v) from k'] at e1
              cases e1
              obtain ⟨b, e3, e4, e5, e6, e7⟩ := e2
              exact post hl sf f' ⟨b, e3, e4, e5, e7⟩
            · cases hp
    · cases hp
/-- all defs of a text, to any depth -/
theorem all_ok {P : Program} {w : World} {K : PySem.W.Frag} {mg : Str → Option Value} {base : Heap} {T : List (Str × Df)} {n : Nat} (bi : ∀ x ∈ bnames, mg x = none) (da : ∀ f D, T.lookup f = some D → DefAt P K mg T f D) :
    ∀ k f D, T.lookup f = some D → k = 0 ∨ Cal P w K mg base k f (spD ⟨K, w⟩ D.io D.ps ((Phi T n k).phi f))
  | 0, f, D, h => .inl rfl
  | k + 1, f, D, h => by
    obtain ⟨st, fa, fd, F, hm, b, S, hps, hc⟩ := (da f D h).ex
    exact .inr ⟨fa, fd, _, def_ok F S hps hc h bi fun f D h => all_ok bi da k f D h, hm, F.kp, b⟩
/-- the script as plain data -/
theorem den_script {K : Kw} {H : Hp} {a : Addr} {ns : List Int} (h : SqL K H a (ns.map V.int)) (hl : ns.length ≤ 63) : Den K H (.lst (ns.map .int)) (.ref a) :=
  ⟨a, _, rfl, h, by rw [List.length_map]; exact small_line (by omega), DenL.of_ints ns⟩
theorem law_sp {K : Kw} {H : Hp} {a : Addr} {ns : List Int} {phi : List Dat → Option (Out × Dat)} {E : XK} (h : SqL K H a (ns.map V.int)) (hl : ns.length ≤ 63) (hp : phi [.lst (ns.map .int)] = some (.val (.bl true), .non)) :
    spD K none 1 phi [.ref a] H (fun v _ => v = .bl true) E := by
  refine ⟨H, _, _, _, hp, ⟨Same.refl H, rfl, rfl, fun i d v hd hv _ => ?_, fun _ _ _ _ _ z => nomatch z⟩, fun v F' H' po => po.res⟩
  cases i with
  | zero =>
    cases hd
    cases hv
    exact den_script h hl
  | succ i => cases hd
/-- a def, from what the head tells of it -/
theorem at_mk {P : Program} {K : PySem.W.Frag} {h : Heap} {mg : Str → Option Value} (X : K.In h) (G : h.Ns mainGlobals mg) {T : List (Str × Df)} {f : Str} {D : Df} {st : Stmt} {fa : Addr} {od an : Option Addr} {sl : Array (Option Value)} {oc kV dc pm cd ct : Value}
    (S : FnScope D.N (D.N.take D.ps) (defScope st)) (hps : D.ps ≤ D.N.length) (hc : chkB ⟨D.N, defScope st, defScope st, proN D.io, T⟩ D.body (defBody st) = true)
    (b : ∀ (kV doc pm : Value) (an : Option Addr) (cdv ct : Value) (us : List Value), us.length = (D.N.take D.ps).length → bindArgs (PySem.W.fnOf f f (defArgs st) (defBody st) (defScope st) .none kV doc pm an cdv ct) ⟨us, []⟩ = pure ((D.N.take D.ps).zip us))
    (a1 : PySem.W.nsIn K mainGlobals f = some (some (.ref fa))) (l1 : K.lookup fa = some ⟨oc, od, .func (PySem.W.fnOf f f (defArgs st) (defBody st) (defScope st) .none kV dc pm an cd ct), sl⟩) (c1 : PySem.W.codeIn K cd f = true) (k1 : PySem.W.keepIn K (.ref fa) = true) : DefAt P K mg T f D :=
  let F := fun_mk (st := st) l1 c1 k1
  ⟨st, fa, _, F, PySem.W.mg_of X G a1, F.binds b, S, hps, hc⟩
/-- the law's own def -/
theorem law_fin {P : Program} {w : World} {K : PySem.W.Frag} {h : Heap} {mg : Str → Option Value} {fa : Addr} (X : K.In h) (G : h.Ns mainGlobals mg) (hfa : mg "law" = some (.ref fa)) {T : List (Str × Df)} {n k : Nat} {D : Df} {st : Stmt} {fb : Addr} {od an : Option Addr} {sl : Array (Option Value)} {oc kV dc pm cd ct : Value}
    (S : FnScope D.N (D.N.take D.ps) (defScope st)) (hps : D.ps ≤ D.N.length) (hc : chkB ⟨D.N, defScope st, defScope st, proN D.io, T⟩ D.body (defBody st) = true) (hT : T.lookup ("law" : Str) = some D) (hN : D.N.take D.ps = [("script" : Str)]) (hio : D.io = none) (hp1 : D.ps = 1)
    (b : ∀ (kV doc pm : Value) (an : Option Addr) (cdv ct : Value) (us : List Value), us.length = (D.N.take D.ps).length → bindArgs (PySem.W.fnOf "law" "law" (defArgs st) (defBody st) (defScope st) .none kV doc pm an cdv ct) ⟨us, []⟩ = pure ((D.N.take D.ps).zip us))
    (a1 : PySem.W.nsIn K mainGlobals "law" = some (some (.ref fb))) (l1 : K.lookup fb = some ⟨oc, od, .func (PySem.W.fnOf "law" "law" (defArgs st) (defBody st) (defScope st) .none kV dc pm an cd ct), sl⟩) (c1 : PySem.W.codeIn K cd "law" = true) (k1 : PySem.W.keepIn K (.ref fb) = true)
    (bi : ∀ x ∈ bnames, mg x = none) (da : ∀ f D, T.lookup f = some D → DefAt P K mg T f D) :
    ∃ fd : FuncData, (∀ (s : Shared) (v : Value), BindsTo s fd ⟨[v], []⟩ [("script", v)]) ∧ ∀ base : Heap, K.In base → base.Ns mainGlobals mg → FnOk P w K mg base CX0 (k + 1) fa fd ["script"] (spD ⟨K, w⟩ none 1 ((Phi T n (k + 1)).phi "law")) := by
  have e := hfa.symm.trans (PySem.W.mg_of X G a1)
  cases e
  have F := fun_mk (st := st) l1 c1 k1
  refine ⟨PySem.W.fnOf "law" "law" (defArgs st) (defBody st) (defScope st) .none kV dc pm an cd ct, fun s v => .of_eq ?_, fun base _ _ => ?_⟩
  · have := b kV dc pm an cd ct [v] (by rw [hN]; rfl)
    rw [hN] at this
    exact this
  · have := def_ok (P := P) (w := w) (base := base) (n := n) (k := k) F S hps hc hT bi fun f D h => all_ok bi da k f D h
    rw [hN, hio, hp1] at this
    exact this
end Dl

/-! L0: running terms of the small language: equations, loops. -/
namespace Dl
open PySem PySem.Spec PyProof.Rows L2

section
variable {W : Wd} {n : Nat} {r : Rho}
@[simp] theorem run_var (i : Nat) : Dl.run W (.var i) r = (look r i).bind fun _ => some (.place i, r) := by rw [Dl.run]; rfl
@[simp] theorem run_non : Dl.run W .non r = some (.val .non, r) := by rw [Dl.run]
@[simp] theorem run_bl (b : Bool) : Dl.run W (.bl b) r = some (.val (.bl b), r) := by rw [Dl.run]
@[simp] theorem run_int (i : Int) : Dl.run W (.int i) r = some (.val (.int i), r) := by rw [Dl.run]
@[simp] theorem run_str (x : Str) : Dl.run W (.str x) r = some (.val (.str x), r) := by rw [Dl.run]
@[simp] theorem run_tup (es : Es) : Dl.run W (.tup es) r = (runL W es r).bind fun p => some (.val (.tup p.1), p.2) := by rw [Dl.run]; rfl
@[simp] theorem run_lst (es : Es) : Dl.run W (.lst es) r = (runL W es r).bind fun p => some (.fresh (.lst p.1), p.2) := by rw [Dl.run]; rfl
@[simp] theorem run_op1 (k : K1) (a : E) : Dl.run W (.op1 k a) r = (Dl.run W a r).bind fun p => (res p.2 p.1).bind fun d => (sem1 k d).bind fun o => some (o, p.2) := by rw [Dl.run]; rfl
@[simp] theorem run_op2 (k : K2) (a b : E) : Dl.run W (.op2 k a b) r = (Dl.run W a r).bind fun p => (res p.2 p.1).bind fun d1 => if pre2 k d1 = true then (Dl.run W b p.2).bind fun q => (res q.2 p.1).bind fun d => (res q.2 q.1).bind fun e => (sem2 k d e).bind fun o => some (o, q.2) else none := by rw [Dl.run]; rfl
@[simp] theorem run_cut (a : E) (lo hi : Oe) : Dl.run W (.cut a lo hi) r = (Dl.run W a r).bind fun p => (runO W lo p.2).bind fun l => (runO W hi l.2).bind fun h => (res h.2 p.1).bind fun d => (semCut d l.1 h.1).bind fun o => some (o, h.2) := by rw [Dl.run]; rfl
@[simp] theorem run_rev (a : E) : Dl.run W (.rev a) r = (Dl.run W a r).bind fun p => (res p.2 p.1).bind fun d => (semRev d).bind fun o => some (o, p.2) := by rw [Dl.run]; rfl
@[simp] theorem run_and (a b : E) : Dl.run W (.and a b) r = (Dl.run W a r).bind fun p => (frz p.2 p.1).bind fun d => (truthD d.1).bind fun t => if t = true then Dl.run W b d.2 else some (.val d.1, d.2) := by rw [Dl.run]; rfl
@[simp] theorem run_or (a b : E) : Dl.run W (.or a b) r = (Dl.run W a r).bind fun p => (frz p.2 p.1).bind fun d => (truthD d.1).bind fun t => if t = true then some (.val d.1, d.2) else Dl.run W b d.2 := by rw [Dl.run]; rfl
@[simp] theorem run_not (a : E) : Dl.run W (.not a) r = (Dl.run W a r).bind fun p => (res p.2 p.1).bind fun d => (truthD d).bind fun t => some (.val (.bl (!t)), p.2) := by rw [Dl.run]; rfl
@[simp] theorem run_ite (t : T) (a b : E) : Dl.run W (.ite t a b) r = (runT W t r).bind fun p => if p.1 = true then Dl.run W a p.2 else Dl.run W b p.2 := by rw [Dl.run]; rfl
@[simp] theorem run_call (f : Str) (es : Es) : Dl.run W (.call f es) r = (W.io f).bind fun io => (runA W es io r).bind fun p => (resAll p.2 p.1).bind fun ds => (W.phi f ds).bind fun z => (giveBack p.2 io p.1 z.2).bind fun r => some (z.1, r) := by rw [Dl.run]; rfl
@[simp] theorem run_callB (f : Str) (es : Es) : Dl.run W (.callB f es) r = (W.io f).bind fun io => if io = none then (runP W es r).bind fun p => (resAll p.2 p.1).bind fun ds => (W.phi f ds).bind fun z => (match z.1 with | .val d => if flatD d = true then some (.val d, p.2) else none | _ => none) else none := by rw [Dl.run]; rfl
@[simp] theorem runP_nil : runP W .nil r = some ([], r) := by rw [runP]
@[simp] theorem runP_cons (e : E) (es : Es) : runP W (.cons e es) r = (Dl.run W e r).bind fun p => (runP W es p.2).bind fun q => some (p.1 :: q.1, q.2) := by rw [runP]; rfl
theorem run_comp (own : List Nat) (tg : Tg) (src : Src) (c : Ot) (elt : E) : Dl.run W (.comp own tg src c elt) r = (runI W src r).bind fun p => (compD (turnC W own tg c elt) p.1 (wipeR p.2 own)).bind fun z => some (.fresh (.lst z.1), back p.2 z.2 own) := by rw [Dl.run]; rfl
theorem run_pop (i : Nat) (a : E) : Dl.run W (.pop i a) r = (look r i).bind fun s => if isLst s.d = true then (Dl.run W a r).bind fun p => (res p.2 p.1).bind fun d => (match look p.2 i, d with
      | some ⟨.lst ds, .own⟩, .int k => (ixN ds.length k).bind fun j => (ds[j]?).bind fun x => some (.val x, p.2.set i (some ⟨.lst (ds.eraseIdx j), .own⟩))
      | some ⟨.lst ds, .io⟩, .int k => (ixN ds.length k).bind fun j => (ds[j]?).bind fun x => some (.val x, p.2.set i (some ⟨.lst (ds.eraseIdx j), .io⟩))
      | _, _ => none) else none := by rw [Dl.run]; rfl
theorem run_app (i : Nat) (a : E) : Dl.run W (.app i a) r = (look r i).bind fun s => if isLst s.d = true then (Dl.run W a r).bind fun p => (frz p.2 p.1).bind fun x => (match look x.2 i with
      | some ⟨.lst ds, .own⟩ => if ds.length < sizeLine then some (.val .non, x.2.set i (some ⟨.lst (ds ++ [x.1]), .own⟩)) else none
      | some ⟨.lst ds, .io⟩ => if ds.length < sizeLine then some (.val .non, x.2.set i (some ⟨.lst (ds ++ [x.1]), .io⟩)) else none
      | _ => none) else none := by rw [Dl.run]; rfl
@[simp] theorem run_dct (es : Es) : Dl.run W (.dct es) r = (runL W es r).bind fun p => (mkD p.1 [] []).bind fun d => some (.fresh d, p.2) := by rw [Dl.run]; rfl
theorem run_setd (i : Nat) (k x : E) : Dl.run W (.setd i k x) r = (look r i).bind fun s => if isDct s.d = true then (Dl.run W k r).bind fun p => (frz p.2 p.1).bind fun a => (Dl.run W x a.2).bind fun q => (frz q.2 q.1).bind fun b => (match look b.2 i with
      | some ⟨.dct ks vs, .own⟩ => if okey ks a.1 = true ∧ ks.length < sizeLine ∧ vs.length = ks.length then (match getV a.1 ks vs with
          | some e => some (.val e, b.2)
          | none => some (.val b.1, b.2.set i (some ⟨putD a.1 b.1 ks vs, .own⟩))) else none
      | some ⟨.dct ks vs, .io⟩ => if okey ks a.1 = true ∧ ks.length < sizeLine ∧ vs.length = ks.length then (match getV a.1 ks vs with
          | some e => some (.val e, b.2)
          | none => some (.val b.1, b.2.set i (some ⟨putD a.1 b.1 ks vs, .io⟩))) else none
      | _ => none) else none := by rw [Dl.run]; rfl
theorem run_ins (i : Nat) (a b : E) : Dl.run W (.ins i a b) r = (look r i).bind fun s => if isLst s.d = true then (Dl.run W a r).bind fun p => (frz p.2 p.1).bind fun k => (Dl.run W b k.2).bind fun q => (frz q.2 q.1).bind fun x => (match look x.2 i, k.1 with
      | some ⟨.lst ds, .own⟩, .int k => if ds.length < sizeLine ∧ 0 ≤ k ∧ k < 2 ^ 63 then some (.val .non, x.2.set i (some ⟨.lst (ds.take k.toNat ++ [x.1] ++ ds.drop k.toNat), .own⟩)) else none
      | some ⟨.lst ds, .io⟩, .int k => if ds.length < sizeLine ∧ 0 ≤ k ∧ k < 2 ^ 63 then some (.val .non, x.2.set i (some ⟨.lst (ds.take k.toNat ++ [x.1] ++ ds.drop k.toNat), .io⟩)) else none
      | _, _ => none) else none := by rw [Dl.run]; rfl
theorem run_ext (i : Nat) (a : E) : Dl.run W (.ext i a) r = (look r i).bind fun s => if isLst s.d = true then (Dl.run W a r).bind fun p => (match look p.2 i, p.1 with
      | some ⟨.lst ds, .own⟩, .fresh (.lst es) => if ds.length + es.length ≤ sizeLine then some (.val .non, p.2.set i (some ⟨.lst (ds ++ es), .own⟩)) else none
      | some ⟨.lst ds, .io⟩, .fresh (.lst es) => if ds.length + es.length ≤ sizeLine then some (.val .non, p.2.set i (some ⟨.lst (ds ++ es), .io⟩)) else none
      | _, _ => none) else none := by rw [Dl.run]; rfl
theorem run_call0 (f : Str) : Dl.run W (.call0 f) r = (W.io f).bind fun io => if io = none then (W.phi f []).bind fun z => some (z.1, r) else none := by rw [Dl.run]; rfl
theorem run_step (a : E) (lo : Oe) (st : E) : Dl.run W (.step a lo st) r = (Dl.run W a r).bind fun p => (runO W lo p.2).bind fun l => (Dl.run W st l.2).bind fun q => (res q.2 p.1).bind fun d => (match res q.2 q.1 with | some (.int k) => (semStep d l.1 k).bind fun o => some (o, q.2) | _ => none) := by rw [Dl.run]; rfl
theorem run_bor (e : E) : Dl.run W (.bor e) r = (Dl.run W e (fzAll r)).bind fun p => (match p.1 with
    | .fresh (.lst xs) => if xs.all flatD = true then some (.fresh (.lst xs), r) else none
    | .val d => if flatD d = true then some (.val d, r) else none
    | _ => none) := by rw [Dl.run]; rfl
@[simp] theorem runL_nil : runL W .nil r = some ([], r) := by rw [runL]
@[simp] theorem runL_cons (e : E) (es : Es) : runL W (.cons e es) r = (Dl.run W e r).bind fun p => (frz p.2 p.1).bind fun d => (runL W es d.2).bind fun q => some (d.1 :: q.1, q.2) := by rw [runL]; rfl
@[simp] theorem runA_nil (k : Option Nat) : runA W .nil k r = some ([], r) := by rw [runA]
@[simp] theorem runA_io (e : E) (es : Es) : runA W (.cons e es) (some 0) r = (Dl.run W e r).bind fun p => (lend p.2 p.1).bind fun o => (runA W es none p.2).bind fun q => some (o :: q.1, q.2) := by rw [runA]; rfl
@[simp] theorem runA_none (e : E) (es : Es) : runA W (.cons e es) none r = (Dl.run W e r).bind fun p => (frz p.2 p.1).bind fun d => (runA W es none d.2).bind fun q => some (.val d.1 :: q.1, q.2) := by rw [runA]; rfl
@[simp] theorem runA_succ (e : E) (es : Es) (k : Nat) : runA W (.cons e es) (some (k + 1)) r = (Dl.run W e r).bind fun p => (frz p.2 p.1).bind fun d => (runA W es (some k) d.2).bind fun q => some (.val d.1 :: q.1, q.2) := by rw [runA]; rfl
@[simp] theorem runO_no : runO W .no r = some (none, r) := by rw [runO]
@[simp] theorem runO_yes (e : E) : runO W (.yes e) r = (Dl.run W e r).bind fun p => (match res p.2 p.1 with | some (.int i) => some (some i, p.2) | _ => none) := by rw [runO]; rfl
@[simp] theorem runOt_no : runOt W .no r = some (true, r) := by rw [runOt]
@[simp] theorem runOt_yes (t : T) : runOt W (.yes t) r = runT W t r := by rw [runOt]
@[simp] theorem runT_val (e : E) : runT W (.val e) r = (Dl.run W e r).bind fun p => (res p.2 p.1).bind fun d => (truthD d).bind fun t => some (t, p.2) := by rw [runT]; rfl
@[simp] theorem runT_cmp (k : K2) (a b : E) : runT W (.cmp k a b) r = (Dl.run W a r).bind fun p => (Dl.run W b p.2).bind fun q => (res q.2 p.1).bind fun d => (res q.2 q.1).bind fun e => (match sem2 k d e with | some (.val (.bl t)) => some (t, q.2) | _ => none) := by rw [runT]; rfl
@[simp] theorem runT_not (t : T) : runT W (.not t) r = (runT W t r).bind fun p => some (!p.1, p.2) := by rw [runT]; rfl
@[simp] theorem runT_and (a b : T) : runT W (.and a b) r = (runT W a r).bind fun p => if p.1 = true then runT W b p.2 else some (false, p.2) := by rw [runT]; rfl
@[simp] theorem runT_or (a b : T) : runT W (.or a b) r = (runT W a r).bind fun p => if p.1 = true then some (true, p.2) else runT W b p.2 := by rw [runT]; rfl
@[simp] theorem runI_seq (e : E) : runI W (.seq e) r = (Dl.run W e r).bind fun p => (frz p.2 p.1).bind fun d => (items d.1).bind fun ds => some (ds, d.2) := by rw [runI]; rfl
theorem runI_rng1 (a : E) : runI W (.rng1 a) r = (Dl.run W a r).bind fun p => (match res p.2 p.1 with | some (.int n) => if -(2 ^ 62) ≤ n ∧ n.toNat ≤ sizeLine then some (rangeD 0 n.toNat, p.2) else none | _ => none) := by rw [runI]; rfl
theorem runI_rng2 (a b : E) : runI W (.rng2 a b) r = (Dl.run W a r).bind fun p => (Dl.run W b p.2).bind fun q => (match res q.2 p.1, res q.2 q.1 with | some (.int i), some (.int j) => if -(2 ^ 62) ≤ i ∧ i < 2 ^ 62 ∧ -(2 ^ 62) ≤ j ∧ j < 2 ^ 62 ∧ (j - i).toNat ≤ sizeLine then some (rangeD i (j - i).toNat, q.2) else none | _, _ => none) := by rw [runI]; rfl
@[simp] theorem runI_zip (es : Es) : runI W (.zip es) r = (runL W es r).bind fun p => (match p.1 with | [d, e] => (items d).bind fun xs => (items e).bind fun ys => some (zipD xs ys, p.2) | _ => none) := by rw [runI]; rfl
@[simp] theorem runI_enm (es : Es) : runI W (.enm es) r = (runL W es r).bind fun p => (match p.1 with | [d] => (items d).bind fun xs => some (enumD 0 xs, p.2) | _ => none) := by rw [runI]; rfl
/-- one turn of a for -/
def stepF (W : Wd) (n : Nat) (tg : Tg) (body : Ss) (d : Dat) (r : Rho) : Option Fl := (bindT r tg d).bind fun r => runB W n body r
@[simp] theorem runS_expr (e : E) : runS W n (.expr e) r = (Dl.run W e r).bind fun p => some (.next p.2) := by rw [runS]; rfl
@[simp] theorem runS_set (i : Nat) (e : E) : runS W n (.set i e) r = (Dl.run W e r).bind fun p => (store p.2 i p.1).bind fun r => some (.next r) := by rw [runS]; rfl
@[simp] theorem runS_unp (is : List Nat) (e : E) : runS W n (.unp is e) r = (Dl.run W e r).bind fun p => (frz p.2 p.1).bind fun d => (match d.1 with | .tup ds => (putAll d.2 is ds).bind fun r => some (.next r) | _ => none) := by rw [runS]; rfl
theorem runS_setAt (i : Nat) (ix e : E) : runS W n (.setAt i ix e) r = (Dl.run W e r).bind fun p => (frz p.2 p.1).bind fun x => (look x.2 i).bind fun _ => (Dl.run W ix x.2).bind fun q => (match look q.2 i, res q.2 q.1 with
    | some ⟨.lst ds, .own⟩, some (.int k) => (ixN ds.length k).bind fun j => some (.next (q.2.set i (some ⟨.lst (ds.set j x.1), .own⟩)))
    | some ⟨.lst ds, .io⟩, some (.int k) => (ixN ds.length k).bind fun j => some (.next (q.2.set i (some ⟨.lst (ds.set j x.1), .io⟩)))
    | some ⟨.dct ks vs, .own⟩, some k => if okey ks k = true ∧ ks.length < sizeLine then some (.next (q.2.set i (some ⟨putD k x.1 ks vs, .own⟩))) else none
    | some ⟨.dct ks vs, .io⟩, some k => if okey ks k = true ∧ ks.length < sizeLine then some (.next (q.2.set i (some ⟨putD k x.1 ks vs, .io⟩))) else none
    | _, _ => none) := by rw [runS]; rfl
theorem runS_aug (i : Nat) (k : K2) (e : E) : runS W n (.aug i k e) r = (look r i).bind fun _ => (Dl.run W e r).bind fun p => (match look p.2 i, res p.2 p.1 with
    | some ⟨.int x, .fz⟩, some (.int y) => (match k with
      | .add => some (.next (p.2.set i (some ⟨.int (x + y), .fz⟩)))
      | .sub => some (.next (p.2.set i (some ⟨.int (x - y), .fz⟩)))
      | _ => none)
    | some ⟨.str x, .fz⟩, some (.str y) => (match k with
      | .add => if x.length + y.length ≤ sizeLine then some (.next (p.2.set i (some ⟨.str (x ++ y), .fz⟩))) else none
      | _ => none)
    | _, _ => none) := by rw [runS]; rfl
@[simp] theorem runS_ife (t : T) (a b : Ss) : runS W n (.ife t a b) r = (runT W t r).bind fun p => if p.1 = true then runB W n a p.2 else runB W n b p.2 := by rw [runS]; rfl
theorem runS_for (tg : Tg) (src : Src) (body : Ss) (wp : List Nat) : runS W n (.for_ tg src body wp) r = (runI W src r).bind fun p => forD (stepF W n tg body) wp p.1 (wipeR p.2 wp) := by rw [runS]; rfl
theorem runS_whl (t : T) (body : Ss) (wp : List Nat) : runS W n (.whl t body wp) r = whlD (runT W t) (runB W n body) wp n (wipeR r wp) := by rw [runS]
@[simp] theorem runS_ret (e : E) : runS W n (.ret e) r = (Dl.run W e r).bind fun p => some (.ret p.1 p.2) := by rw [runS]; rfl
@[simp] theorem runS_retN : runS W n .retN r = some (.ret (.val .non) r) := by rw [runS]
@[simp] theorem runS_pass : runS W n .pass r = some (.next r) := by rw [runS]
@[simp] theorem runS_brk : runS W n .brk r = some (.brk r) := by rw [runS]
@[simp] theorem runS_cont : runS W n .cont r = some (.cont r) := by rw [runS]
@[simp] theorem runB_nil : runB W n .nil r = some (.next r) := by rw [runB]
/-- a statement, and what follows it -/
def thenB (x : Option Fl) (k : Rho → Option Fl) : Option Fl := match x with
  | some (.next r) => k r
  | x => x
@[simp] theorem thenB_next (k : Rho → Option Fl) : thenB (some (.next r)) k = k r := rfl
@[simp] theorem thenB_ret (o : Out) (k : Rho → Option Fl) : thenB (some (.ret o r)) k = some (.ret o r) := rfl
@[simp] theorem thenB_brk (k : Rho → Option Fl) : thenB (some (.brk r)) k = some (.brk r) := rfl
@[simp] theorem thenB_cont (k : Rho → Option Fl) : thenB (some (.cont r)) k = some (.cont r) := rfl
@[simp] theorem runB_cons (s : S) (ss : Ss) : runB W n (.cons s ss) r = thenB (runS W n s r) (runB W n ss) := by
  rw [runB]
  cases runS W n s r with
  | none => rfl
  | some f => cases f <;> rfl
theorem runB_next {s : S} {ss : Ss} {r' : Rho} (h : runS W n s r = some (.next r')) : runB W n (.cons s ss) r = runB W n ss r' := by rw [runB_cons, h]; rfl
theorem runB_ret {s : S} {ss : Ss} {o : Out} {r' : Rho} (h : runS W n s r = some (.ret o r')) : runB W n (.cons s ss) r = some (.ret o r') := by rw [runB_cons, h]; rfl
end

theorem runD_val {W : Wd} {n : Nat} {D : Df} {ds : List Dat} {x d : Dat} {r : Rho} (hl : ds.length = D.ps) (h : runB W n D.body (startR D ds) = some (.ret (.val x) r)) (hd : leftR D r = some d) : runD W n D ds = some (.val x, d) := by
  unfold runD
  rw [if_pos hl, h]
  dsimp only
  rw [hd]
  rfl
theorem runD_fresh {W : Wd} {n : Nat} {D : Df} {ds : List Dat} {x d : Dat} {r : Rho} (hl : ds.length = D.ps) (h : runB W n D.body (startR D ds) = some (.ret (.fresh x) r)) (hd : leftR D r = some d) : runD W n D ds = some (.fresh x, d) := by
  unfold runD
  rw [if_pos hl, h]
  dsimp only
  rw [hd]
  rfl
theorem runD_at {W : Wd} {n : Nat} {D : Df} {ds : List Dat} {x d : Dat} {r : Rho} {j : Nat} (hl : ds.length = D.ps) (h : runB W n D.body (startR D ds) = some (.ret (.place j) r)) (hx : look r j = some ⟨x, .fz⟩) (hd : leftR D r = some d) : runD W n D ds = some (.val x, d) := by
  unfold runD
  rw [if_pos hl, h]
  dsimp only
  rw [hx]
  dsimp only
  rw [hd]
  rfl
theorem runD_own {W : Wd} {n : Nat} {D : Df} {ds : List Dat} {x d : Dat} {r : Rho} {j : Nat} (hl : ds.length = D.ps) (h : runB W n D.body (startR D ds) = some (.ret (.place j) r)) (hx : look r j = some ⟨x, .own⟩) (hd : leftR D r = some d) : runD W n D ds = some (.fresh x, d) := by
  unfold runD
  rw [if_pos hl, h]
  dsimp only
  rw [hx]
  dsimp only
  rw [hd]
  rfl
theorem erase_map {α β : Type} (f : α → β) : ∀ (l : List α) (i : Nat), (l.map f).eraseIdx i = (l.eraseIdx i).map f
  | [], _ => rfl
  | _ :: _, 0 => rfl
  | x :: l, i + 1 => congrArg (f x :: ·) (erase_map f l i)
theorem drop_map {α β : Type} (f : α → β) (l : List α) (i : Nat) : (l.map f).drop i = (l.drop i).map f := by simp
/-! ### loops -/
section
variable {f : Dat → Rho → Option Fl} {wp : List Nat}
/-- a for whose turns all go on: an invariant of the state -/
theorem forD_inv (I : List Dat → Rho → Prop) : ∀ (ds pre : List Dat) (r : Rho), I pre r → (∀ pre d post r, pre ++ d :: post = pre ++ d :: post → d ∈ ds → I pre r → ∃ r', f d r = some (.next r') ∧ I (pre ++ [d]) (wipeR r' wp)) → ∃ r', forD f wp ds r = some (.next r') ∧ I (pre ++ ds) r'
  | [], pre, r, h, _ => ⟨r, rfl, by rw [List.append_nil]; exact h⟩
  | d :: ds, pre, r, h, hs => by
    obtain ⟨r1, h1, h2⟩ := hs pre d ds r rfl List.mem_cons_self h
    obtain ⟨r2, h3, h4⟩ := forD_inv I ds (pre ++ [d]) _ h2 fun pre e post r _ he hi => hs pre e post r rfl (List.mem_cons_of_mem _ he) hi
    refine ⟨r2, ?_, by rw [← List.append_cons] at h4; exact h4⟩
    rw [forD, h1]
    exact h3
/-- .. the state a function of what was taken -/
theorem forD_fold {α : Type} (st : α → Rho) (g : α → Dat → α) (P : α → Prop) : ∀ (ds : List Dat) (a : α), P a → (∀ a d, d ∈ ds → P a → P (g a d) ∧ ∃ r', f d (st a) = some (.next r') ∧ wipeR r' wp = st (g a d)) → forD f wp ds (st a) = some (.next (st (ds.foldl g a))) ∧ P (ds.foldl g a)
  | [], a, h, _ => ⟨rfl, h⟩
  | d :: ds, a, h, hs => by
    obtain ⟨h1, r', h2, h3⟩ := hs a d List.mem_cons_self h
    have ih := forD_fold st g P ds (g a d) h1 fun a e he hp => hs a e (List.mem_cons_of_mem _ he) hp
    rw [forD, h2]
    dsimp only
    rw [h3]
    exact ih
end
section
variable {f : Dat → Rho → Option Fl} {wp : List Nat}
/-- a for whose turns all go on: by the number of the turn -/
theorem forD_ix (I : Nat → Rho → Prop) : ∀ (ds : List Dat) (k : Nat) (r : Rho), I k r → (∀ i d r, ds[i]? = some d → I (k + i) r → ∃ r', f d r = some (.next r') ∧ I (k + i + 1) (wipeR r' wp)) → ∃ r', forD f wp ds r = some (.next r') ∧ I (k + ds.length) r'
  | [], k, r, h, _ => ⟨r, rfl, h⟩
  | d :: ds, k, r, h, hs => by
    obtain ⟨r1, h1, h2⟩ := hs 0 d r rfl h
    obtain ⟨r2, h3, h4⟩ := forD_ix I ds (k + 1) _ h2 fun i e r he hi => by
      have e1 : k + 1 + i = k + (i + 1) := by omega
      rw [e1] at hi ⊢
      exact hs (i + 1) e r he hi
    refine ⟨r2, ?_, by rw [List.length_cons]; have e1 : k + (ds.length + 1) = k + 1 + ds.length := by omega
                       rw [e1]; exact h4⟩
    rw [forD, h1]
    exact h3
/-- a for that appends: F tells what a turn adds -/
theorem forD_app (st : List Dat → Rho) (F : Dat → Option Dat) (ds : List Dat) (hs : ∀ (i : Nat) (d : Dat) (acc : List Dat), ds[i]? = some d → acc.length ≤ i → ∃ r', f d (st acc) = some (.next r') ∧ wipeR r' wp = st (acc ++ (F d).toList)) : forD f wp ds (st []) = some (.next (st (ds.filterMap F))) := by
  obtain ⟨r', h1, h2⟩ := forD_ix (f := f) (wp := wp) (fun i r => r = st ((ds.take i).filterMap F) ∧ ((ds.take i).filterMap F).length ≤ i) ds 0 (st []) ⟨rfl, Nat.le_refl _⟩ (by
    rintro i d r hd ⟨rfl, hl⟩
    rw [Nat.zero_add] at hl ⊢
    obtain ⟨r', h1, h2⟩ := hs i d _ hd hl
    have e : (ds.take (i + 1)).filterMap F = (ds.take i).filterMap F ++ (F d).toList := by
      rw [List.take_add_one, hd, List.filterMap_append]
      congr 1
    refine ⟨r', h1, ?_, ?_⟩
    · rw [h2, e]
    · rw [e, List.length_append]
      have : (F d).toList.length ≤ 1 := by cases F d <;> simp
      omega)
  rw [h1, h2.1, Nat.zero_add, List.take_length]
end
section
variable {f : Dat → Rho → Option (Option Dat × Rho)}
/-- a comprehension without a test: each item gives one with P; I by the turn -/
theorem compD_inv (N : Nat) (I : Nat → Rho → Prop) (P : Dat → Prop) : ∀ (ds : List Dat) (i : Nat) (r : Rho), i + ds.length = N → I i r → (∀ i d r, i < N → d ∈ ds → I i r → ∃ x r', f d r = some (some x, r') ∧ P x ∧ I (i + 1) r') → ∃ xs r', compD f ds r = some (xs, r') ∧ xs.length = ds.length ∧ (∀ x ∈ xs, P x) ∧ I N r'
  | [], i, r, hN, h, _ => ⟨[], r, rfl, rfl, fun _ q => (nomatch q), by rw [← hN]; exact h⟩
  | d :: ds, i, r, hN, h, hs => by
    rw [List.length_cons] at hN
    obtain ⟨x, r1, h1, h2, h3⟩ := hs i d r (by omega) List.mem_cons_self h
    obtain ⟨xs, r2, h4, h5, h6, h7⟩ := compD_inv N I P ds (i + 1) r1 (by omega) h3 fun i d r hi hd hI => hs i d r hi (List.mem_cons_of_mem _ hd) hI
    refine ⟨x :: xs, r2, ?_, by rw [List.length_cons, List.length_cons, h5], fun y hy => ?_, h7⟩
    · rw [compD, h1]
      show (compD f ds r1).bind _ = _
      rw [h4]
      rfl
    · rcases List.mem_cons.mp hy with rfl | hy
      · exact h2
      · exact h6 y hy
/-- .. with a test: an item is given or left out -/
theorem compD_filter (I : Rho → Prop) (P : Dat → Prop) : ∀ (ds : List Dat) (r : Rho), I r → (∀ d r, d ∈ ds → I r → ∃ x r', f d r = some (x, r') ∧ (∀ y, x = some y → P y) ∧ I r') → ∃ xs r', compD f ds r = some (xs, r') ∧ xs.length ≤ ds.length ∧ (∀ x ∈ xs, P x) ∧ I r'
  | [], r, h, _ => ⟨[], r, rfl, Nat.le_refl _, fun _ q => (nomatch q), h⟩
  | d :: ds, r, h, hs => by
    obtain ⟨x, r1, h1, h2, h3⟩ := hs d r List.mem_cons_self h
    obtain ⟨xs, r2, h4, h5, h6, h7⟩ := compD_filter I P ds r1 h3 fun d r hd hi => hs d r (List.mem_cons_of_mem _ hd) hi
    cases x with
    | none =>
      refine ⟨xs, r2, ?_, Nat.le_succ_of_le h5, h6, h7⟩
      rw [compD, h1]
      show (compD f ds r1).bind _ = _
      rw [h4]
      rfl
    | some y =>
      refine ⟨y :: xs, r2, ?_, by rw [List.length_cons, List.length_cons]; omega, fun z hz => ?_, h7⟩
      · rw [compD, h1]
        show (compD f ds r1).bind _ = _
        rw [h4]
        rfl
      · rcases List.mem_cons.mp hz with rfl | hz
        · exact h2 _ rfl
        · exact h6 z hz
/-- .. reckoned -/
theorem compD_map (st : Rho) (g : Dat → Dat) : ∀ (ds : List Dat), (∀ d, d ∈ ds → f d st = some (some (g d), st)) → compD f ds st = some (ds.map g, st)
  | [], _ => rfl
  | d :: ds, hs => by
    rw [compD, hs d List.mem_cons_self]
    show (compD f ds st).bind _ = _
    rw [compD_map st g ds fun e he => hs e (List.mem_cons_of_mem _ he)]
    rfl
end
theorem rangeD_mem {lo : Int} {n : Nat} {d : Dat} (h : d ∈ rangeD lo n) : ∃ k : Nat, k < n ∧ d = .int (lo + k) := by
  unfold rangeD at h
  obtain ⟨k, hk, rfl⟩ := List.mem_map.mp h
  exact ⟨k, List.mem_range.mp hk, rfl⟩
theorem rangeD_len (lo : Int) (n : Nat) : (rangeD lo n).length = n := by
  unfold rangeD
  rw [List.length_map, List.length_range]
/-- the place of a sign in a text -/
theorem index_one {x : Str} {c : Nat} (h : c ∈ x.cps.toList) : ∃ k : Nat, Txt.index0 x ⟨#[c]⟩ = some k ∧ k < x.length := by
  have h1 := StrLaws.found_one x c
  rw [decide_eq_true h] at h1
  unfold Txt.index0
  cases ho : Builtin.Str.occurrences x ⟨#[c]⟩ 0 x.length 1 with
  | nil => rw [ho] at h1; cases h1
  | cons k rest =>
    refine ⟨k, rfl, ?_⟩
    have := (StrLaws.occ_spec x ⟨#[c]⟩ 0 x.length 1 k (by rw [ho]; exact List.mem_cons_self)).1
    have e : (⟨#[c]⟩ : Str).length = 1 := rfl
    omega
/-! ### texts by their signs -/
/-- the text of one sign -/
def sg (c : Nat) : Str := ⟨#[c]⟩
theorem signs_eq (x : Str) : signs x = x.cps.toList.map sg := rfl
theorem joinL_nil : ∀ ps : List (List Nat), TL.joinL [] ps = ps.flatten
  | [] => rfl
  | [p] => by simp [TL.joinL]
  | p :: q :: r => by
    show p ++ ([] ++ TL.joinL [] (q :: r)) = _
    rw [List.nil_append, joinL_nil (q :: r)]
    rfl
theorem join_signs (cs : List Nat) : Txt.join ⟨#[]⟩ (cs.map sg) = ⟨cs.toArray⟩ := by
  apply TL.ext_tl
  rw [TL.join_eq, TL.tl_join]
  show TL.joinL [] _ = cs
  rw [joinL_nil, List.map_map]
  induction cs with
  | nil => rfl
  | cons c cs ih =>
    rw [List.map_cons, List.flatten_cons, ih]
    rfl
theorem sum_ones (cs : List Nat) : ((cs.map sg).map (·.length)).sum = cs.length := by
  induction cs with
  | nil => rfl
  | cons c cs ih =>
    rw [List.map_cons, List.map_cons, List.sum_cons, ih, List.length_cons]
    show 1 + _ = _
    omega
/-- joining signs -/
theorem semJoin_signs (cs : List Nat) (h : cs.length ≤ 1000) : semJoin (.str "") (.lst ((cs.map sg).map .str)) = some (.val (.str ⟨cs.toArray⟩)) := by
  have e : ("" : Str) = ⟨#[]⟩ := rfl
  unfold semJoin
  dsimp only
  rw [strsOf_map]
  dsimp only
  rw [sum_ones, e, join_signs, if_pos]
  show cs.length + _ * 0 ≤ sizeLine
  rw [Nat.mul_zero, Nat.add_zero]
  exact small_line h
theorem ltS_sg (a b : Nat) : ltS (sg a) (sg b) = decide (a < b) := by
  show ltCps [a] [b] = _
  simp [ltCps]
/-- sorting signs -/
def insN (x : Nat) : List Nat → List Nat
  | [] => [x]
  | y :: r => if y < x then y :: insN x r else x :: y :: r
def sortN : List Nat → List Nat
  | [] => []
  | x :: r => insN x (sortN r)
theorem insS_sg (x : Nat) : ∀ l : List Nat, insS (sg x) (l.map sg) = (insN x l).map sg
  | [] => rfl
  | y :: r => by
    rw [List.map_cons]
    unfold insS insN
    rw [ltS_sg]
    by_cases h : y < x
    · rw [if_pos h, if_pos (decide_eq_true h), insS_sg x r]
      rfl
    · rw [if_neg h, if_neg (by simpa using h)]
      rfl
theorem sortS_sg : ∀ l : List Nat, sortS (l.map sg) = (sortN l).map sg
  | [] => rfl
  | x :: r => by
    rw [List.map_cons]
    unfold sortS sortN
    rw [sortS_sg r, insS_sg]
theorem insN_perm (x : Nat) : ∀ l : List Nat, (insN x l).Perm (x :: l)
  | [] => List.Perm.refl _
  | y :: r => by
    unfold insN
    split
    · exact ((insN_perm x r).cons y).trans (List.Perm.swap x y r)
    · exact List.Perm.refl _
theorem sortN_perm : ∀ l : List Nat, (sortN l).Perm l
  | [] => List.Perm.refl _
  | x :: r => (insN_perm x (sortN r)).trans ((sortN_perm r).cons x)
theorem semSorted_sg (cs : List Nat) : semSorted (.lst ((cs.map sg).map .str)) = some (.fresh (.lst (((sortN cs).map sg).map .str))) := by
  unfold semSorted
  dsimp only
  rw [strsOf_map]
  dsimp only
  rw [sortS_sg]
theorem semAt_str {cs : List Nat} {i : Int} (h0 : 0 ≤ i) (h1 : i < cs.length) : ∃ c, c ∈ cs ∧ semAt (.str ⟨cs.toArray⟩) (.int i) = some (.val (.str (sg c))) := by
  have hi : i.toNat < cs.length := by omega
  refine ⟨cs[i.toNat], List.getElem_mem hi, ?_⟩
  show (atI cs i).map _ = _
  have e : ((i.toNat : Nat) : Int) = i := by omega
  have := atI_nat (xs := cs) (j := i.toNat) (List.getElem?_eq_getElem hi)
  rw [e] at this
  rw [this]
  rfl
theorem atI_of {α : Type} {xs : List α} {i : Int} (h0 : 0 ≤ i) (h1 : i < xs.length) : ∃ (hi : i.toNat < xs.length), atI xs i = some xs[i.toNat] := by
  have hi : i.toNat < xs.length := by omega
  refine ⟨hi, ?_⟩
  have e : ((i.toNat : Nat) : Int) = i := by omega
  have := atI_nat (xs := xs) (j := i.toNat) (List.getElem?_eq_getElem hi)
  rw [e] at this
  exact this
theorem ixN_of {n : Nat} {i : Int} (h0 : 0 ≤ i) (h1 : i < n) : ixN n i = some i.toNat := by
  unfold ixN
  rw [if_pos h0, if_pos h1]
theorem all_of {α β : Type} {P : α → Prop} {f : β → α} {xs : List α} (h : ∀ x ∈ xs, ∃ y, x = f y ∧ P x) : ∃ ys : List β, xs = ys.map f ∧ ∀ y ∈ ys, P (f y) := by
  induction xs with
  | nil => exact ⟨[], rfl, fun _ q => (nomatch q)⟩
  | cons x xs ih =>
    obtain ⟨y, rfl, hp⟩ := h x List.mem_cons_self
    obtain ⟨ys, rfl, hy⟩ := ih fun z hz => h z (List.mem_cons_of_mem _ hz)
    refine ⟨y :: ys, rfl, fun z hz => ?_⟩
    rcases List.mem_cons.mp hz with rfl | hz
    · exact hp
    · exact hy z hz
/-! ### arithmetic, where it is known -/
theorem mul_eq {i j : Int} (h : -18446744073709551616 < i ∧ i < 18446744073709551616) : semMul (.int i) (.int j) = some (.val (.int (i * j))) := if_pos (.inl h)
theorem mul_eq' {i j : Int} (h : -18446744073709551616 < j ∧ j < 18446744073709551616) : semMul (.int i) (.int j) = some (.val (.int (i * j))) := if_pos (.inr h)
theorem div_eq {i j : Int} (h : 0 < j) (h2 : j < 1073741824) : semDiv (.int i) (.int j) = some (.val (.int (i / j))) := if_pos ⟨h, h2⟩
theorem mod_eq {i j : Int} (h : 0 < j) : semMod (.int i) (.int j) = some (.val (.int (i % j))) := if_pos h
/-! ### dicts -/
@[simp] theorem eqK_int (i j : Int) : eqK (.int i) (.int j) = decide (i = j) := by simp [eqK, nkey]
@[simp] theorem eqK_str (x y : Str) : eqK (.str x) (.str y) = decide (x = y) := by simp [eqK, nkey]
theorem okey_strs (xs : List Str) (x : Str) : okey (xs.map .str) (.str x) = true := by
  unfold okey
  rw [strs_flatK]
  rfl
theorem ints_flatK : ∀ ys : List Int, (ys.map Dat.int).all flatK = true
  | [] => rfl
  | y :: ys => by rw [List.map_cons, List.all_cons, ints_flatK ys]; rfl
theorem okey_ints (xs : List Int) (x : Int) : okey (xs.map .int) (.int x) = true := by
  unfold okey
  rw [ints_flatK]
  rfl
theorem hasK_strs (x : Str) : ∀ xs : List Str, hasK (.str x) (xs.map .str) = decide (x ∈ xs)
  | [] => rfl
  | y :: ys => by
    have ih := hasK_strs x ys
    unfold hasK at ih ⊢
    rw [List.map_cons, List.any_cons, ih, eqK_str]
    by_cases h : y = x
    · subst h; simp
    · simp [h, Ne.symm h]
theorem hasK_ints (x : Int) : ∀ xs : List Int, hasK (.int x) (xs.map .int) = decide (x ∈ xs)
  | [] => rfl
  | y :: ys => by
    have ih := hasK_ints x ys
    unfold hasK at ih ⊢
    rw [List.map_cons, List.any_cons, ih, eqK_int]
    by_cases h : y = x
    · subst h; simp
    · simp [h, Ne.symm h]
theorem getV_at {k : Dat} : ∀ {ks vs : List Dat} {i : Nat} {v : Dat}, ks[i]? = some k → vs[i]? = some v → (∀ j x, j < i → ks[j]? = some x → eqK x k = false) → eqK k k = true → getV k ks vs = some v
  | [], vs, i, v, h, _, _, _ => by simp at h
  | x :: ks, [], i, v, _, h, _, _ => by simp at h
  | x :: ks, y :: vs, 0, v, h, h2, _, he => by
    cases h
    cases h2
    unfold getV
    rw [if_pos he]
  | x :: ks, y :: vs, i + 1, v, h, h2, hn, he => by
    unfold getV
    rw [if_neg (by rw [hn 0 x (Nat.succ_pos _) rfl]; exact Bool.false_ne_true)]
    exact getV_at (i := i) h h2 (fun j z hj hz => hn (j + 1) z (Nat.succ_lt_succ hj) hz) he
/-! ### == of lists of texts -/
def okS (x : Str) : Bool := PyData.strOk x
theorem canAll_strs : ∀ {xs : List Str}, (∀ x ∈ xs, PyData.strOk x = true) → PyData.canLayAll0 (toPys (xs.map .str)) = true
  | [], _ => rfl
  | x :: xs, h => by
    show (PyData.strOk x && PyData.canLayAll0 (toPys (xs.map .str))) = true
    rw [h x List.mem_cons_self, canAll_strs fun y hy => h y (List.mem_cons_of_mem _ hy)]
    rfl
theorem depth_strs : ∀ (xs : List Str), PyData.depthAll (toPys (xs.map .str)) = 0
  | [] => rfl
  | x :: xs => by
    show max 0 (PyData.depthAll (toPys (xs.map .str))) = 0
    rw [depth_strs xs]
    rfl
theorem shaped_strs {xs : List Str} (h : ∀ x ∈ xs, PyData.strOk x = true) : SeqAt.shaped (toPy (.lst (xs.map .str))) = true := by
  unfold SeqAt.shaped
  rw [Bool.and_eq_true]
  refine ⟨canAll_strs h, decide_eq_true ?_⟩
  show PyData.depthAll (toPys (xs.map .str)) + 1 ≤ 64
  rw [depth_strs]
  decide
theorem eqvAll_strs : ∀ (xs ys : List Str), PyData.eqvAll (toPys (xs.map .str)) (toPys (ys.map .str)) = decide (xs = ys)
  | [], [] => rfl
  | [], y :: ys => by simp [toPys, PyData.eqvAll]
  | x :: xs, [] => by simp [toPys, PyData.eqvAll]
  | x :: xs, y :: ys => by
    show (PyData.eqv (.str x) (.str y) && PyData.eqvAll (toPys (xs.map .str)) (toPys (ys.map .str))) = _
    rw [eqvAll_strs xs ys]
    show ((x == y) && _) = _
    by_cases h1 : x = y
    · by_cases h2 : xs = ys
      · simp [h1, h2]
      · simp [h1, h2]
    · simp [h1]
theorem eqD_strs {xs ys : List Str} (h1 : ∀ x ∈ xs, PyData.strOk x = true) (h2 : ∀ x ∈ ys, PyData.strOk x = true) : eqD (.lst (xs.map .str)) (.lst (ys.map .str)) = some (decide (xs = ys)) := by
  have e : eqD (.lst (xs.map .str)) (.lst (ys.map .str)) = if SeqAt.shaped (toPy (.lst (xs.map .str))) = true ∧ SeqAt.shaped (toPy (.lst (ys.map .str))) = true then some (PyData.eqv (toPy (.lst (xs.map .str))) (toPy (.lst (ys.map .str)))) else none := rfl
  rw [e, if_pos ⟨shaped_strs h1, shaped_strs h2⟩]
  exact congrArg some (eqvAll_strs xs ys)
end Dl

/-! W1: the draws out of a well, letters, words, rules (the same defs in several laws), as they run. -/
namespace Dw
open PySem PySem.Spec PyProof.Rows L2 Dl
def d_law_well : Df := { N := ["cell"], ps := 1, io := none, body :=
    (.cons (.ife (.cmp .ge (.var 0) (.op2 .pow (.int 10) (.int 18))) (.cons (.ret (.lst (.cons (.var 0) (.cons (.op2 .mod (.var 0) (.int 2147483629)) .nil))))
    .nil) .nil)
    (.cons (.ret (.lst (.cons (.int 0) (.cons (.op2 .mod (.var 0) (.int 2147483629)) .nil))))
    .nil)) }
def d_law_draw : Df := { N := ["well", "many", "stirred", "got"], ps := 2, io := some 0, body :=
    (.cons (.ife (.cmp .gt (.op2 .at (.var 0) (.int 0)) (.int 0)) (.cons (.set 3 (.op2 .mod (.op2 .at (.var 0) (.int 0)) (.var 1)))
    (.cons (.setAt 0 (.int 0) (.op2 .div (.op2 .at (.var 0) (.int 0)) (.var 1)))
    (.cons (.ret (.var 3))
    .nil))) .nil)
    (.cons (.set 2 (.op2 .mod (.op2 .add (.op2 .mul (.op2 .at (.var 0) (.int 1)) (.int 48271)) (.int 11)) (.int 2147483647)))
    (.cons (.set 2 (.op2 .mod (.op2 .mul (.var 2) (.var 2)) (.int 2147483587)))
    (.cons (.setAt 0 (.int 1) (.op2 .mod (.op2 .add (.op2 .mul (.var 2) (.int 69621)) (.int 40692)) (.int 2147483629)))
    (.cons (.ret (.op2 .mod (.op2 .div (.op2 .at (.var 0) (.int 1)) (.int 8)) (.var 1)))
    .nil))))) }
def d_law_same : Df := { N := ["got", "due", "one", "other"], ps := 2, io := none, body :=
    (.cons (.ife (.cmp .is (.var 1) .non) (.cons (.ret (.op2 .is (.var 0) .non))
    .nil) .nil)
    (.cons (.ife (.val (.op1 (.isi "bool") (.var 1))) (.cons (.ret (.and (.op1 (.isi "bool") (.var 0)) (.op2 .eq (.var 0) (.var 1))))
    .nil) .nil)
    (.cons (.ife (.val (.op1 (.isi "int") (.var 1))) (.cons (.ret (.and (.op1 (.isi "int") (.var 0)) (.and (.not (.op1 (.isi "bool") (.var 0))) (.op2 .eq (.var 0) (.var 1)))))
    .nil) .nil)
    (.cons (.ife (.val (.op1 (.isi "str") (.var 1))) (.cons (.ret (.and (.op1 (.isi "str") (.var 0)) (.op2 .eq (.var 0) (.var 1))))
    .nil) .nil)
    (.cons (.ife (.and (.val (.op1 (.isi "tuple") (.var 1))) (.not (.val (.op1 (.isi "tuple") (.var 0))))) (.cons (.ret (.bl false))
    .nil) .nil)
    (.cons (.ife (.and (.val (.op1 (.isi "list") (.var 1))) (.not (.val (.op1 (.isi "list") (.var 0))))) (.cons (.ret (.bl false))
    .nil) .nil)
    (.cons (.ife (.cmp .ne (.op1 .len (.var 0)) (.op1 .len (.var 1))) (.cons (.ret (.bl false))
    .nil) .nil)
    (.cons (.for_ (.tup [2, 3]) (.zip (.cons (.var 0) (.cons (.var 1) .nil))) (.cons (.ife (.not (.val (.call "_law_same" (.cons (.var 2) (.cons (.var 3) .nil))))) (.cons (.ret (.bl false))
    .nil) .nil)
    .nil) [0, 1, 2, 3])
    (.cons (.ret (.bl true))
    .nil))))))))) }
def d_law_letters : Df := { N := ["well", "signs", "k"], ps := 1, io := some 0, body :=
    (.cons (.ife (.cmp .eq (.call "_law_draw" (.cons (.var 0) (.cons (.int 2) .nil))) (.int 0)) (.cons (.ret (.cut (.str "abcde") .no (.yes (.op2 .add (.int 1) (.call "_law_draw" (.cons (.var 0) (.cons (.int 5) .nil)))))))
    .nil) .nil)
    (.cons (.set 1 (.str "abcdefghijklmnopqrstuvwxyz"))
    (.cons (.ret (.op2 .join (.str "") (.op1 .sset (.comp [2] (.name 2) (.rng1 (.op2 .add (.int 1) (.call "_law_draw" (.cons (.var 0) (.cons (.int 5) .nil))))) .no (.op2 .at (.var 1) (.call "_law_draw" (.cons (.var 0) (.cons (.int 26) .nil))))))))
    .nil))) }
def d_law_one_of : Df := { N := ["well", "letters"], ps := 2, io := some 0, body :=
    (.cons (.ret (.op2 .at (.var 1) (.call "_law_draw" (.cons (.var 0) (.cons (.op1 .len (.var 1)) .nil)))))
    .nil) }
def d_law_some : Df := { N := ["well", "letters", "found", "sign"], ps := 2, io := some 0, body :=
    (.cons (.set 2 (.comp [3] (.name 3) (.seq (.var 1)) (.yes (.cmp .eq (.call "_law_draw" (.cons (.var 0) (.cons (.int 2) .nil))) (.int 0))) (.var 3)))
    (.cons (.ife (.cmp .eq (.var 2) (.lst .nil)) (.cons (.set 2 (.lst (.cons (.call "_law_one_of" (.cons (.var 0) (.cons (.var 1) .nil))) .nil)))
    .nil) .nil)
    (.cons (.ret (.op2 .join (.str "") (.var 2)))
    .nil))) }
def d_law_rule : Df := { N := ["well", "letters", "shape", "kind", "x", "y", "where", "guard", "letter"], ps := 4, io := some 0, body :=
    (.cons (.set 4 (.call "_law_one_of" (.cons (.var 0) (.cons (.var 1) .nil))))
    (.cons (.set 5 (.call "_law_one_of" (.cons (.var 0) (.cons (.var 1) .nil))))
    (.cons (.ife (.cmp .eq (.var 3) (.int 0)) (.cons (.ret (.tup (.cons (.str "two") (.cons (.var 4) (.cons (.var 5) (.cons (.call "_law_one_of" (.cons (.var 0) (.cons (.var 1) .nil))) (.cons (.call "_law_one_of" (.cons (.var 0) (.cons (.var 1) .nil))) .nil)))))))
    .nil) .nil)
    (.cons (.ife (.cmp .eq (.var 3) (.int 1)) (.cons (.ret (.tup (.cons (.str "call") (.cons (.var 4) (.cons (.var 5) (.cons (.op2 .join (.str "") (.comp [8] (.name 8) (.seq (.var 1)) .no (.call "_law_one_of" (.cons (.var 0) (.cons (.var 1) .nil))))) .nil))))))
    .nil) .nil)
    (.cons (.set 6 (.op2 .at (.lst (.cons (.str "left") (.cons (.str "right") (.cons (.str "others") .nil)))) (.call "_law_draw" (.cons (.var 0) (.cons (.int 3) .nil)))))
    (.cons (.ife (.cmp .eq (.var 2) (.str "ring")) (.cons (.set 6 (.str "others"))
    .nil) .nil)
    (.cons (.set 7 (.tup (.cons (.op2 .at (.lst (.cons (.str "all") (.cons (.str "some") .nil))) (.call "_law_draw" (.cons (.var 0) (.cons (.int 2) .nil)))) (.cons (.var 6) (.cons (.call "_law_some" (.cons (.var 0) (.cons (.var 1) .nil))) .nil)))))
    (.cons (.ret (.tup (.cons (.str "one") (.cons (.var 4) (.cons (.var 5) (.cons (.op2 .at (.lst (.cons .non (.cons (.var 7) (.cons (.var 7) .nil)))) (.call "_law_draw" (.cons (.var 0) (.cons (.int 3) .nil)))) .nil))))))
    .nil)))))))) }
def d_law_word : Df := { N := ["well", "letters", "many", "some", "k"], ps := 2, io := some 0, body :=
    (.cons (.set 2 (.op2 .at (.lst (.cons (.int 0) (.cons (.int 1) (.cons (.int 2) (.cons (.int 3) (.cons (.int 4) (.cons (.int 5) (.cons (.call "_law_draw" (.cons (.var 0) (.cons (.int 10) .nil))) (.cons (.call "_law_draw" (.cons (.var 0) (.cons (.int 41) .nil))) (.cons (.int 40) .nil)))))))))) (.call "_law_draw" (.cons (.var 0) (.cons (.int 9) .nil)))))
    (.cons (.set 3 (.op2 .at (.lst (.cons (.var 1) (.cons (.call "_law_some" (.cons (.var 0) (.cons (.var 1) .nil))) .nil))) (.call "_law_draw" (.cons (.var 0) (.cons (.int 2) .nil)))))
    (.cons (.ret (.op2 .join (.str "") (.comp [4] (.name 4) (.rng1 (.var 2)) .no (.call "_law_one_of" (.cons (.var 0) (.cons (.var 3) .nil))))))
    .nil))) }

/-- a well -/
def IsWell (d : Dat) : Prop := ∃ a b : Int, d = .lst [.int a, .int b] ∧ 0 ≤ b ∧ b < 2147483629
theorem well_run (W : Wd) (n : Nat) (cell : Int) : ∃ row, runD W n d_law_well [.int cell] = some (.fresh row, .non) ∧ IsWell row := by
  have hm : 0 ≤ cell % 2147483629 ∧ cell % 2147483629 < 2147483629 := ⟨Int.emod_nonneg _ (by decide), Int.emod_lt_of_pos _ (by decide)⟩
  by_cases h : (10 : Int) ^ 18 ≤ cell
  · refine ⟨.lst [.int cell, .int (cell % 2147483629)], ?_, _, _, rfl, hm⟩
    have h' : (1000000000000000000 : Int) ≤ cell := h
    simp [runD, d_law_well, startR, look, res, sem2, semGe, semLe, semPow, semMod, frz, leftR, pre2, h']
  · refine ⟨.lst [.int 0, .int (cell % 2147483629)], ?_, _, _, rfl, hm⟩
    have h' : ¬ (1000000000000000000 : Int) ≤ cell := h
    simp [runD, d_law_well, startR, look, res, sem2, semGe, semLe, semPow, semMod, frz, leftR, pre2, h']
theorem draw_run (W : Wd) (n : Nat) {row : Dat} {m : Int} (hr : IsWell row) (h0 : 0 < m) (h1 : m < 1073741824) :
    ∃ v row', runD W n d_law_draw [row, .int m] = some (.val (.int v), row') ∧ 0 ≤ v ∧ v < m ∧ IsWell row' := by
  obtain ⟨a, b, rfl, hb0, hb1⟩ := hr
  by_cases ha : 0 < a
  · refine ⟨a % m, .lst [.int (a / m), .int b], ?_, Int.emod_nonneg _ (by omega), Int.emod_lt_of_pos _ h0, a / m, b, rfl, hb0, hb1⟩
    simp [runD, d_law_draw, startR, look, res, sem2, semAt, atI, ixN, semGt, semLt, semMod, semDiv, store, frz, leftR, pre2, runS_setAt, h0, h1, ha]
  · have hs : 0 ≤ (b * 48271 + 11) % 2147483647 ∧ (b * 48271 + 11) % 2147483647 < 2147483647 := ⟨Int.emod_nonneg _ (by decide), Int.emod_lt_of_pos _ (by decide)⟩
    generalize hs1 : (b * 48271 + 11) % 2147483647 = s1 at hs
    have ht : 0 ≤ s1 * s1 % 2147483587 ∧ s1 * s1 % 2147483587 < 2147483587 := ⟨Int.emod_nonneg _ (by decide), Int.emod_lt_of_pos _ (by decide)⟩
    generalize hs2 : s1 * s1 % 2147483587 = s2 at ht
    have hu : 0 ≤ (s2 * 69621 + 40692) % 2147483629 ∧ (s2 * 69621 + 40692) % 2147483629 < 2147483629 := ⟨Int.emod_nonneg _ (by decide), Int.emod_lt_of_pos _ (by decide)⟩
    generalize hs3 : (s2 * 69621 + 40692) % 2147483629 = s3 at hu
    refine ⟨s3 / 8 % m, .lst [.int a, .int s3], ?_, Int.emod_nonneg _ (by omega), Int.emod_lt_of_pos _ h0, a, s3, rfl, hu.1, hu.2⟩
    have m1 := mul_eq (i := b) (j := 48271) (by omega)
    have m2 := mul_eq (i := s1) (j := s1) (by omega)
    have m3 := mul_eq (i := s2) (j := 69621) (by omega)
    simp [runD, d_law_draw, startR, look, res, sem2, semAt, atI, ixN, semGt, semLt, semMod, semAdd, semDiv, store, frz, leftR, pre2, runS_setAt, ha, m1, m2, m3, hs1, hs2, hs3, h0]
structure HasDraw (W : Wd) : Prop where
  io : W.io "_law_draw" = some (some 0)
  run : ∀ (row : Dat) (m : Int), IsWell row → 0 < m → m < 1073741824 → ∃ v row', W.phi "_law_draw" [row, .int m] = some (.val (.int v), row') ∧ 0 ≤ v ∧ v < m ∧ IsWell row'
/-- a comprehension whose turns draw -/
theorem comp_draw {f : Dat → Rho → Option (Option Dat × Rho)} (st : Dat → Rho) (P : Dat → Prop) (ds : List Dat) {row : Dat} (hr : IsWell row)
    (h : ∀ d ∈ ds, ∀ row, IsWell row → ∃ x row', f d (st row) = some (some x, st row') ∧ P x ∧ IsWell row') : ∃ xs row', compD f ds (st row) = some (xs, st row') ∧ xs.length = ds.length ∧ (∀ x ∈ xs, P x) ∧ IsWell row' := by
  obtain ⟨xs, r', h1, h2, h3, row', h4, rfl⟩ := compD_inv (f := f) ds.length (fun _ r => ∃ row, IsWell row ∧ r = st row) P ds 0 (st row) (by omega) ⟨row, hr, rfl⟩ (by
    rintro i d r _ hd ⟨row, hr, rfl⟩
    obtain ⟨x, row', q1, q2, q3⟩ := h d hd row hr
    exact ⟨x, st row', q1, q2, row', q3, rfl⟩)
  exact ⟨xs, row', h1, h2, h3, h4⟩
theorem comp_drawF {f : Dat → Rho → Option (Option Dat × Rho)} (st : Dat → Rho) (P : Dat → Prop) (ds : List Dat) {row : Dat} (hr : IsWell row)
    (h : ∀ d ∈ ds, ∀ row, IsWell row → ∃ x row', f d (st row) = some (x, st row') ∧ (∀ y, x = some y → P y) ∧ IsWell row') : ∃ xs row', compD f ds (st row) = some (xs, st row') ∧ xs.length ≤ ds.length ∧ (∀ x ∈ xs, P x) ∧ IsWell row' := by
  obtain ⟨xs, r', h1, h2, h3, row', h4, rfl⟩ := compD_filter (f := f) (fun r => ∃ row, IsWell row ∧ r = st row) P ds (st row) ⟨row, hr, rfl⟩ (by
    rintro d r hd ⟨row, hr, rfl⟩
    obtain ⟨x, row', q1, q2, q3⟩ := h d hd row hr
    exact ⟨x, st row', q1, q2, row', q3, rfl⟩)
  exact ⟨xs, row', h1, h2, h3, h4⟩
/-! ### letters -/
def Low (c : Nat) : Prop := 97 ≤ c ∧ c ≤ 122
def tx (cs : List Nat) : Dat := .str ⟨cs.toArray⟩
structure IsLetters (cs : List Nat) : Prop where
  pos : 0 < cs.length
  few : cs.length ≤ 26
  low : ∀ c ∈ cs, Low c
  nd : cs.Nodup
def abc : List Nat := (List.range 26).map (97 + ·)
theorem abc_low : ∀ c ∈ abc, Low c := by unfold Low; decide
theorem sg_inj {a b : Nat} (h : sg a = sg b) : a = b := by
  have := congrArg (fun x : Str => x.cps.toList) h
  simpa [sg] using this
theorem addK_sg (c : Nat) (cs : List Nat) : addK (sg c) (cs.map sg) = (addK c cs).map sg := by
  unfold addK
  have e : sg c ∈ cs.map sg ↔ c ∈ cs := by
    rw [List.mem_map]
    exact ⟨fun ⟨x, hx, e⟩ => sg_inj e ▸ hx, fun h => ⟨c, h, rfl⟩⟩
  by_cases h : c ∈ cs
  · rw [if_pos h, if_pos (e.mpr h)]
  · rw [if_neg h, if_neg fun z => h (e.mp z), List.map_append]
    rfl
theorem dd_sg (cs : List Nat) : dd (cs.map sg) = (dd cs).map sg := by
  have main : ∀ (cs acc : List Nat), (cs.map sg).foldl (fun ks k => addK k ks) (acc.map sg) = (cs.foldl (fun ks k => addK k ks) acc).map sg := by
    intro cs
    induction cs with
    | nil => intro acc; rfl
    | cons c cs ih =>
      intro acc
      rw [List.map_cons, List.foldl_cons, addK_sg, ih, List.foldl_cons]
  exact main cs []
theorem all_sg {P : Nat → Prop} {xs : List Dat} (h : ∀ x ∈ xs, ∃ c, x = .str (sg c) ∧ P c) : ∃ cs : List Nat, xs = (cs.map sg).map .str ∧ ∀ c ∈ cs, P c := by
  obtain ⟨ys, rfl, hy⟩ := all_of (P := fun x => ∃ c, x = .str (sg c) ∧ P c) (f := fun c => Dat.str (sg c)) fun x hx => by
    obtain ⟨c, e, hc⟩ := h x hx
    exact ⟨c, e, c, e, hc⟩
  refine ⟨ys, by rw [List.map_map]; rfl, fun c hc => ?_⟩
  obtain ⟨c', e, h⟩ := hy c hc
  rw [sg_inj (Dat.str.inj e)]
  exact h
theorem semAt_tx {cs : List Nat} {i : Int} (h0 : 0 ≤ i) (h1 : i < cs.length) : ∃ c, c ∈ cs ∧ semAt (tx cs) (.int i) = some (.val (.str (sg c))) := semAt_str h0 h1
theorem letters_run {W : Wd} (n : Nat) (hW : HasDraw W) {row : Dat} (hr : IsWell row) :
    ∃ (cs : List Nat) (row' : _), runD W n d_law_letters [row] = some (.val (tx cs), row') ∧ IsLetters cs ∧ IsWell row' := by
  obtain ⟨a, r1, t1, a0, a1, h1⟩ := hW.run row 2 hr (by decide) (by decide)
  obtain ⟨b, r2, t2, b0, b1, h2⟩ := hW.run r1 5 h1 (by decide) (by decide)
  by_cases ha : a = 0
  · subst ha
    have ec : semCut (.str "abcde") none (some (1 + b)) = some (.val (tx ([97, 98, 99, 100, 101].take (1 + b).toNat))) := by
      rcases (by omega : b = 0 ∨ b = 1 ∨ b = 2 ∨ b = 3 ∨ b = 4) with rfl | rfl | rfl | rfl | rfl <;> rfl
    refine ⟨[97, 98, 99, 100, 101].take (1 + b).toNat, r2, ?_, ⟨?_, ?_, fun c hc => ?_, ?_⟩, h2⟩
    · refine runD_val (r := [some ⟨r2, .io⟩, none, none]) rfl ?_ rfl
      refine runB_ret ?_
      simp [startR, d_law_letters, look, res, lend, resAll, giveBack, hW.io, t1, t2, frz, sem2, semEq, eqD, semAdd, pre2, ec]
    · rw [List.length_take]; simp; omega
    · rw [List.length_take]; simp; omega
    · have : ∀ c ∈ [97, 98, 99, 100, 101], Low c := by unfold Low; decide
      exact this c (List.mem_of_mem_take hc)
    · exact List.Nodup.sublist (List.take_sublist _ _) (by decide)
  · let st : Dat → Rho := fun row => [some ⟨row, .io⟩, some ⟨.str "abcdefghijklmnopqrstuvwxyz", .fz⟩, none]
    obtain ⟨xs, r3, q1, q2, q3, h3⟩ := comp_draw (f := turnC W [2] (.name 2) .no (.op2 .at (.var 1) (.call "_law_draw" (.cons (.var 0) (.cons (.int 26) .nil))))) st (fun x => ∃ c, x = .str (sg c) ∧ Low c) (rangeD 0 (1 + b).toNat) h2 (by
      intro e he row hr
      obtain ⟨v, row', t, v0, v1, hr'⟩ := hW.run row 26 hr (by decide) (by decide)
      obtain ⟨c, hc, e⟩ := semAt_tx (cs := abc) v0 (by show v < 26; exact v1)
      refine ⟨.str (sg c), row', ?_, ⟨c, rfl, abc_low c hc⟩, hr'⟩
      have ea : (.str "abcdefghijklmnopqrstuvwxyz" : Dat) = tx abc := rfl
      simp [st, turnC, bindT, look, res, frz, lend, resAll, giveBack, hW.io, t, wipeR, sem2, pre2, ea, e])
    obtain ⟨cs, rfl, hc⟩ := all_sg q3
    have hl : cs.length = (1 + b).toNat := by rw [List.length_map, List.length_map, rangeD_len] at q2; exact q2
    have e1 : semSset (.lst ((cs.map sg).map .str)) = some (.fresh (.lst (((sortN (dd cs)).map sg).map .str))) := by
      unfold semSset
      dsimp only
      rw [strsOf_map]
      dsimp only
      rw [if_pos (by rw [List.length_map, hl]; show _ < 4096; omega), dd_sg, sortS_sg]
    have ln : (sortN (dd cs)).length ≤ 5 := by
      rw [(sortN_perm _).length_eq]
      have := dd_len cs
      omega
    have e2 := semJoin_signs (sortN (dd cs)) (by omega)
    refine ⟨sortN (dd cs), r3, ?_, ⟨?_, by omega, fun c h => hc c ((dd_mem cs).mp ((sortN_perm _).mem_iff.mp h)), (sortN_perm _).nodup_iff.mpr (dd_nodup cs)⟩, h3⟩
    · refine runD_val (r := st r3) rfl ?_ rfl
      refine (runB_next (r' := [some ⟨r1, .io⟩, none, none]) ?_).trans ?_
      · simp [startR, d_law_letters, look, res, lend, resAll, giveBack, hW.io, t1, frz, sem2, semEq, eqD, ha]
      refine (runB_next (r' := st r1) ?_).trans ?_
      · simp [st, store]
      have src : runI W (.rng1 (.op2 .add (.int 1) (.call "_law_draw" (.cons (.var 0) (.cons (.int 5) .nil))))) (st r1) = some (rangeD 0 (1 + b).toNat, st r2) := by
        have := small_line (n := (1 + b).toNat) (by omega)
        simp [runI_rng1, st, look, res, frz, lend, resAll, giveBack, hW.io, sem2, semAdd, pre2, t2]
        omega
      have e3 : Dl.run W (.comp [2] (.name 2) (.rng1 (.op2 .add (.int 1) (.call "_law_draw" (.cons (.var 0) (.cons (.int 5) .nil))))) .no (.op2 .at (.var 1) (.call "_law_draw" (.cons (.var 0) (.cons (.int 26) .nil))))) (st r1) = some (.fresh (.lst ((cs.map sg).map .str)), st r3) := by
        rw [run_comp, src]
        show Option.bind (compD _ _ (st r2)) _ = _
        rw [q1]
        simp [st, back, look]
      refine runB_ret ?_
      rw [runS_ret, run_op2, run_str]
      simp [res, pre2, isStr, e3, sem1, sem2]
      simp at e1 e2
      simp [e1, res, e2, tx]
    · have : cs ≠ [] := fun z => by subst z; simp at hl; omega
      obtain ⟨c, t, rfl⟩ := List.exists_cons_of_ne_nil this
      have : c ∈ sortN (dd (c :: t)) := (sortN_perm _).mem_iff.mpr ((dd_mem _).mpr List.mem_cons_self)
      exact List.length_pos_of_mem this
theorem one_of_run {W : Wd} (n : Nat) (hW : HasDraw W) {row : Dat} {cs : List Nat} (hr : IsWell row) (hc : 0 < cs.length) (hc2 : cs.length ≤ 900) :
    ∃ (c : Nat) (row' : _), runD W n d_law_one_of [row, tx cs] = some (.val (.str (sg c)), row') ∧ c ∈ cs ∧ IsWell row' := by
  obtain ⟨v, row', t, v0, v1, hr'⟩ := hW.run row cs.length hr (by omega) (by omega)
  obtain ⟨c, hc, e⟩ := semAt_tx v0 v1
  refine ⟨c, row', ?_, hc, hr'⟩
  have el : (⟨cs.toArray⟩ : Str).length = cs.length := rfl
  refine runD_val (r := [some ⟨row', .io⟩, some ⟨tx cs, .fz⟩]) rfl ?_ rfl
  refine runB_ret ?_
  have e' : semLen (tx cs) = some (.val (.int cs.length)) := rfl
  simp [startR, d_law_one_of, look, res, frz, lend, resAll, giveBack, hW.io, sem1, e', t, sem2, pre2, e]
structure HasOne (W : Wd) : Prop where
  io : W.io "_law_one_of" = some (some 0)
  run : ∀ (row : Dat) (cs : List Nat), IsWell row → 0 < cs.length → cs.length ≤ 900 → ∃ (c : Nat) (row' : _), W.phi "_law_one_of" [row, tx cs] = some (.val (.str (sg c)), row') ∧ c ∈ cs ∧ IsWell row'
theorem strOk_low {cs : List Nat} (h : ∀ c ∈ cs, Low c) : PyData.strOk ⟨cs.toArray⟩ = true := by
  unfold PyData.strOk
  simp only [List.all_toArray, List.all_eq_true, decide_eq_true_eq]
  intro c hc
  have := (h c hc).2
  omega
theorem some_run {W : Wd} (n : Nat) (hW : HasDraw W) (h1 : HasOne W) {row : Dat} {cs : List Nat} (hr : IsWell row) (hc : 0 < cs.length) (hc2 : cs.length ≤ 900) (hl : ∀ c ∈ cs, Low c) :
    ∃ (w : List Nat) (row' : _), runD W n d_law_some [row, tx cs] = some (.val (tx w), row') ∧ 0 < w.length ∧ w.length ≤ 900 ∧ (∀ c ∈ w, c ∈ cs) ∧ IsWell row' := by
  let st : Dat → Rho := fun row => [some ⟨row, .io⟩, some ⟨tx cs, .fz⟩, none, none]
  obtain ⟨xs, r1, q1, q2, q3, h2⟩ := comp_drawF (f := turnC W [3] (.name 3) (.yes (.cmp .eq (.call "_law_draw" (.cons (.var 0) (.cons (.int 2) .nil))) (.int 0))) (.var 3)) st (fun x => ∃ c, x = .str (sg c) ∧ c ∈ cs) ((cs.map sg).map .str) hr (by
    intro e he row hr
    obtain ⟨s, hs, rfl⟩ := List.mem_map.mp he
    obtain ⟨c, hc, rfl⟩ := List.mem_map.mp hs
    obtain ⟨v, row', t, v0, v1, hr'⟩ := hW.run row 2 hr (by decide) (by decide)
    refine ⟨if v = 0 then some (.str (sg c)) else none, row', ?_, fun y hy => ?_, hr'⟩
    · by_cases hv : v = 0
      · simp [st, turnC, bindT, look, res, frz, lend, resAll, giveBack, hW.io, t, wipeR, sem2, semEq, eqD, hv]
      · simp [st, turnC, bindT, look, res, frz, lend, resAll, giveBack, hW.io, t, wipeR, sem2, semEq, eqD, hv]
    · split at hy
      · cases hy
        exact ⟨c, rfl, hc⟩
      · cases hy)
  obtain ⟨w, rfl, hw⟩ := all_sg q3
  have hwl : w.length ≤ cs.length := by simpa using q2
  have e3 : Dl.run W (.comp [3] (.name 3) (.seq (.var 1)) (.yes (.cmp .eq (.call "_law_draw" (.cons (.var 0) (.cons (.int 2) .nil))) (.int 0))) (.var 3)) (startR d_law_some [row, tx cs]) = some (.fresh (.lst ((w.map sg).map .str)), st r1) := by
    have src : runI W (.seq (.var 1)) (st row) = some ((cs.map sg).map .str, st row) := by
      simp only [runI_seq, run_var]
      rfl
    rw [run_comp]
    show Option.bind (runI W _ (st row)) _ = _
    rw [src]
    show Option.bind (compD _ _ (st row)) _ = _
    rw [q1]
    simp [st, back, look]
  have s1 : runS W n (.set 2 (.comp [3] (.name 3) (.seq (.var 1)) (.yes (.cmp .eq (.call "_law_draw" (.cons (.var 0) (.cons (.int 2) .nil))) (.int 0))) (.var 3))) (startR d_law_some [row, tx cs]) = some (.next ((st r1).set 2 (some ⟨.lst ((w.map sg).map .str), .own⟩))) := by
    rw [runS_set, e3]
    rfl
  have ok : ∀ {w : List Nat}, (∀ c ∈ w, c ∈ cs) → ∀ x ∈ w.map sg, PyData.strOk x = true := by
    intro w hw x hx
    obtain ⟨c, hc, rfl⟩ := List.mem_map.mp hx
    exact strOk_low (cs := [c]) fun d hd => by rw [List.mem_singleton.mp hd]; exact hl c (hw c hc)
  have eq := eqD_strs (xs := w.map sg) (ys := []) (ok hw) (fun _ z => nomatch z)
  have j1 := semJoin_signs w (by omega)
  by_cases hw0 : w = []
  · subst hw0
    obtain ⟨c, r2, t2, hcc, h3⟩ := h1.run r1 cs h2 hc hc2
    have j2 := semJoin_signs [c] (by show 1 ≤ 1000; decide)
    refine ⟨[c], r2, ?_, by simp, by simp, fun x hx => by rw [List.mem_singleton.mp hx]; exact hcc, h3⟩
    refine runD_val (r := (st r2).set 2 (some ⟨.lst (([c].map sg).map .str), .own⟩)) rfl ?_ rfl
    refine (runB_next s1).trans ?_
    refine (runB_next (r' := (st r2).set 2 (some ⟨.lst (([c].map sg).map .str), .own⟩)) ?_).trans ?_
    · simp [st, look, res, frz, lend, resAll, giveBack, h1.io, t2, sem2, semEq, store] at eq ⊢
      simp [eq, look, res, frz, lend, resAll, giveBack, h1.io, t2, sem2, semEq, store]
    · refine runB_ret ?_
      simp [st, look, res, pre2, isStr, sem2] at j2 ⊢
      simp [j2, tx]
  · have en : (decide (w.map sg = ([] : List Str))) = false := by
      refine decide_eq_false fun z => hw0 ?_
      exact List.map_eq_nil_iff.mp z
    rw [en] at eq
    refine ⟨w, r1, ?_, List.length_pos_iff.mpr hw0, by omega, hw, h2⟩
    refine runD_val (r := (st r1).set 2 (some ⟨.lst ((w.map sg).map .str), .own⟩)) rfl ?_ rfl
    refine (runB_next s1).trans ?_
    refine (runB_next (r' := (st r1).set 2 (some ⟨.lst ((w.map sg).map .str), .own⟩)) ?_).trans ?_
    · simp [st, look, res, frz, sem2, semEq] at eq ⊢
      simp [eq]
    · refine runB_ret ?_
      simp [st, look, res, pre2, isStr, sem2] at j1 ⊢
      simp [j1, tx]
end Dw

/-! W2: rules, words, sameness (the same defs in several laws), as they run. -/
namespace Dw
open PySem PySem.Spec PyProof.Rows L2 Dl
structure HasSome (W : Wd) : Prop where
  io : W.io "_law_some" = some (some 0)
  run : ∀ (row : Dat) (cs : List Nat), IsWell row → 0 < cs.length → cs.length ≤ 900 → (∀ c ∈ cs, Low c) → ∃ (w : List Nat) (row' : _), W.phi "_law_some" [row, tx cs] = some (.val (tx w), row') ∧ 0 < w.length ∧ w.length ≤ 900 ∧ (∀ c ∈ w, c ∈ cs) ∧ IsWell row'
/-- letters one_of's: a comprehension over anything -/
theorem comp_one {W : Wd} (h1 : HasOne W) {st : Dat → Rho} {cs : List Nat} (hc : 0 < cs.length) (hc2 : cs.length ≤ 900) {own : List Nat} {tg : Tg} {elt : E} (ds : List Dat) {row : Dat} (hr : IsWell row)
    (ht : ∀ d ∈ ds, ∀ (row row' : Dat) (c : Nat), W.phi "_law_one_of" [row, tx cs] = some (.val (.str (sg c)), row') → turnC W own tg .no elt d (st row) = some (some (.str (sg c)), st row')) :
    ∃ (w : List Nat) (row' : _), compD (turnC W own tg .no elt) ds (st row) = some ((w.map sg).map .str, st row') ∧ w.length = ds.length ∧ (∀ c ∈ w, c ∈ cs) ∧ IsWell row' := by
  obtain ⟨xs, r1, q1, q2, q3, h2⟩ := comp_draw (f := turnC W own tg .no elt) st (fun x => ∃ c, x = .str (sg c) ∧ c ∈ cs) ds hr (by
    intro d hd row hr
    obtain ⟨c, row', t, hcc, hr'⟩ := h1.run row cs hr hc hc2
    exact ⟨.str (sg c), row', ht d hd row row' c t, ⟨c, rfl, hcc⟩, hr'⟩)
  obtain ⟨w, rfl, hw⟩ := all_sg q3
  exact ⟨w, r1, q1, by simpa using q2, hw, h2⟩
theorem rule_two {W : Wd} (n : Nat) (h1 : HasOne W) {row : Dat} {cs : List Nat} (sh : Str) (hr : IsWell row) (hc : 0 < cs.length) (hc2 : cs.length ≤ 900) :
    ∃ (a b c d : Nat) (row' : _), runD W n d_law_rule [row, tx cs, .str sh, .int 0] = some (.val (.tup [.str "two", .str (sg a), .str (sg b), .str (sg c), .str (sg d)]), row') ∧ a ∈ cs ∧ b ∈ cs ∧ c ∈ cs ∧ d ∈ cs ∧ IsWell row' := by
  obtain ⟨a, r1, t1, ha, w1⟩ := h1.run row cs hr hc hc2
  obtain ⟨b, r2, t2, hb, w2⟩ := h1.run r1 cs w1 hc hc2
  obtain ⟨c, r3, t3, hcc, w3⟩ := h1.run r2 cs w2 hc hc2
  obtain ⟨d, r4, t4, hd, w4⟩ := h1.run r3 cs w3 hc hc2
  refine ⟨a, b, c, d, r4, ?_, ha, hb, hcc, hd, w4⟩
  refine runD_val (r := [some ⟨r4, .io⟩, some ⟨tx cs, .fz⟩, some ⟨.str sh, .fz⟩, some ⟨.int 0, .fz⟩, some ⟨.str (sg a), .fz⟩, some ⟨.str (sg b), .fz⟩, none, none, none]) rfl ?_ rfl
  simp [startR, d_law_rule, look, res, frz, lend, resAll, giveBack, h1.io, t1, t2, t3, t4, sem2, semEq, eqD, store]
theorem rule_call {W : Wd} (n : Nat) (h1 : HasOne W) {row : Dat} {cs : List Nat} (sh : Str) (hr : IsWell row) (hc : 0 < cs.length) (hc2 : cs.length ≤ 900) :
    ∃ (a b : Nat) (w : List Nat) (row' : _), runD W n d_law_rule [row, tx cs, .str sh, .int 1] = some (.val (.tup [.str "call", .str (sg a), .str (sg b), tx w]), row') ∧ a ∈ cs ∧ b ∈ cs ∧ w.length = cs.length ∧ (∀ c ∈ w, c ∈ cs) ∧ IsWell row' := by
  obtain ⟨a, r1, t1, ha, w1⟩ := h1.run row cs hr hc hc2
  obtain ⟨b, r2, t2, hb, w2⟩ := h1.run r1 cs w1 hc hc2
  let st : Dat → Rho := fun row => [some ⟨row, .io⟩, some ⟨tx cs, .fz⟩, some ⟨.str sh, .fz⟩, some ⟨.int 1, .fz⟩, some ⟨.str (sg a), .fz⟩, some ⟨.str (sg b), .fz⟩, none, none, none]
  obtain ⟨w, r3, q1, q2, q3, w3⟩ := comp_one h1 (st := st) hc hc2 (own := [8]) (tg := .name 8) (elt := .call "_law_one_of" (.cons (.var 0) (.cons (.var 1) .nil))) ((cs.map sg).map .str) w2 (by
    intro d hd row row' c t
    simp [st, turnC, bindT, look, res, frz, lend, resAll, giveBack, h1.io, t, wipeR])
  have hl : w.length = cs.length := by simpa using q2
  refine ⟨a, b, w, r3, ?_, ha, hb, hl, q3, w3⟩
  have e3 : Dl.run W (.comp [8] (.name 8) (.seq (.var 1)) .no (.call "_law_one_of" (.cons (.var 0) (.cons (.var 1) .nil)))) (st r2) = some (.fresh (.lst ((w.map sg).map .str)), st r3) := by
    have src : runI W (.seq (.var 1)) (st r2) = some ((cs.map sg).map .str, st r2) := by
      simp only [runI_seq, run_var]
      rfl
    rw [run_comp, src]
    show Option.bind (compD _ _ (st r2)) _ = _
    rw [q1]
    simp [st, back, look]
  have j := semJoin_signs w (by omega)
  refine runD_val (r := st r3) rfl ?_ rfl
  refine (runB_next (r' := [some ⟨r1, .io⟩, some ⟨tx cs, .fz⟩, some ⟨.str sh, .fz⟩, some ⟨.int 1, .fz⟩, some ⟨.str (sg a), .fz⟩, none, none, none, none]) ?_).trans ?_
  · simp [startR, d_law_rule, look, res, frz, lend, resAll, giveBack, h1.io, t1, store]
  refine (runB_next (r' := st r2) ?_).trans ?_
  · simp [st, look, res, frz, lend, resAll, giveBack, h1.io, t2, store]
  refine (runB_next (r' := st r2) ?_).trans ?_
  · simp [st, look, res, sem2, semEq, eqD]
  refine runB_ret ?_
  simp only [runS_ife, runT_cmp, run_var]
  simp [st, look, res, sem2, semEq, eqD, frz, pre2, isStr] at e3 j ⊢
  simp [e3, res, sem2, j, frz]
  rfl
/-- a guard -/
def IsGuard (cs : List Nat) (g : Dat) : Prop := g = .non ∨ ∃ (how wh : Str) (w : List Nat), g = .tup [.str how, .str wh, tx w] ∧ (how = "all" ∨ how = "some") ∧ (wh = "left" ∨ wh = "right" ∨ wh = "others") ∧ 0 < w.length ∧ w.length ≤ 900 ∧ ∀ c ∈ w, c ∈ cs
theorem rule_one {W : Wd} (n : Nat) (hW : HasDraw W) (h1 : HasOne W) (h2 : HasSome W) {row : Dat} {cs : List Nat} (sh : Str) (hs : sh = "row" ∨ sh = "ring") {k : Int} (hk : k = 2 ∨ k = 3) (hr : IsWell row) (hc : 0 < cs.length) (hc2 : cs.length ≤ 900) (hl : ∀ c ∈ cs, Low c) :
    ∃ (a b : Nat) (g : Dat) (row' : _), runD W n d_law_rule [row, tx cs, .str sh, .int k] = some (.val (.tup [.str "one", .str (sg a), .str (sg b), g]), row') ∧ a ∈ cs ∧ b ∈ cs ∧ IsGuard cs g ∧ IsWell row' := by
  obtain ⟨a, r1, t1, ha, w1⟩ := h1.run row cs hr hc hc2
  obtain ⟨b, r2, t2, hb, w2⟩ := h1.run r1 cs w1 hc hc2
  obtain ⟨u, r3, t3, u0, u1, w3⟩ := hW.run r2 3 w2 (by decide) (by decide)
  obtain ⟨v, r4, t4, v0, v1, w4⟩ := hW.run r3 2 w3 (by decide) (by decide)
  obtain ⟨w, r5, t5, p1, p2, p3, w5⟩ := h2.run r4 cs w4 hc hc2 hl
  obtain ⟨z, r6, t6, z0, z1, w6⟩ := hW.run r5 3 w5 (by decide) (by decide)
  obtain ⟨wh, ew, hw⟩ : ∃ wh : Str, semAt (.lst [.str "left", .str "right", .str "others"]) (.int u) = some (.val (.str wh)) ∧ (wh = "left" ∨ wh = "right" ∨ wh = "others") := by
    rcases (by omega : u = 0 ∨ u = 1 ∨ u = 2) with rfl | rfl | rfl
    · exact ⟨_, rfl, .inl rfl⟩
    · exact ⟨_, rfl, .inr (.inl rfl)⟩
    · exact ⟨_, rfl, .inr (.inr rfl)⟩
  obtain ⟨how, eh, hh⟩ : ∃ how : Str, semAt (.lst [.str "all", .str "some"]) (.int v) = some (.val (.str how)) ∧ (how = "all" ∨ how = "some") := by
    rcases (by omega : v = 0 ∨ v = 1) with rfl | rfl
    · exact ⟨_, rfl, .inl rfl⟩
    · exact ⟨_, rfl, .inr rfl⟩
  have fin : ∀ wh : Str, (wh = "left" ∨ wh = "right" ∨ wh = "others") → ∃ g, semAt (.lst [.non, .tup [.str how, .str wh, tx w], .tup [.str how, .str wh, tx w]]) (.int z) = some (.val g) ∧ IsGuard cs g := by
    intro wh hw
    rcases (by omega : z = 0 ∨ z = 1 ∨ z = 2) with rfl | rfl | rfl
    · exact ⟨_, rfl, .inl rfl⟩
    · exact ⟨_, rfl, .inr ⟨how, wh, w, rfl, hh, hw, p1, p2, p3⟩⟩
    · exact ⟨_, rfl, .inr ⟨how, wh, w, rfl, hh, hw, p1, p2, p3⟩⟩
  have k0 : ¬ k = 0 := by omega
  have k1 : ¬ k = 1 := by omega
  rcases hs with rfl | rfl
  · obtain ⟨g, eg, hg⟩ := fin wh hw
    refine ⟨a, b, g, r6, ?_, ha, hb, hg, w6⟩
    refine runD_val (r := [some ⟨r6, .io⟩, some ⟨tx cs, .fz⟩, some ⟨.str "row", .fz⟩, some ⟨.int k, .fz⟩, some ⟨.str (sg a), .fz⟩, some ⟨.str (sg b), .fz⟩, some ⟨.str wh, .fz⟩, some ⟨.tup [.str how, .str wh, tx w], .fz⟩, none]) rfl ?_ rfl
    have en : decide (("row" : Str) = ("ring" : Str)) = false := by decide
    have en' : ¬ ("row" : Str) = ("ring" : Str) := by decide
    simp [startR, d_law_rule, look, res, frz, lend, resAll, giveBack, h1.io, h2.io, hW.io, t1, t2, t3, t4, t5, t6, sem2, semEq, eqD, store, pre2, ew, eh, eg, k0, k1, en']
  · obtain ⟨g, eg, hg⟩ := fin "others" (.inr (.inr rfl))
    refine ⟨a, b, g, r6, ?_, ha, hb, hg, w6⟩
    refine runD_val (r := [some ⟨r6, .io⟩, some ⟨tx cs, .fz⟩, some ⟨.str "ring", .fz⟩, some ⟨.int k, .fz⟩, some ⟨.str (sg a), .fz⟩, some ⟨.str (sg b), .fz⟩, some ⟨.str "others", .fz⟩, some ⟨.tup [.str how, .str "others", tx w], .fz⟩, none]) rfl ?_ rfl
    simp [startR, d_law_rule, look, res, frz, lend, resAll, giveBack, h1.io, h2.io, hW.io, t1, t2, t3, t4, t5, t6, sem2, semEq, eqD, store, pre2, ew, eh, eg, k0, k1]
theorem word_run {W : Wd} (n : Nat) (hW : HasDraw W) (h1 : HasOne W) (h2 : HasSome W) {row : Dat} {cs : List Nat} (hr : IsWell row) (hc : 0 < cs.length) (hc2 : cs.length ≤ 900) (hl : ∀ c ∈ cs, Low c) :
    ∃ (w : List Nat) (row' : _), runD W n d_law_word [row, tx cs] = some (.val (tx w), row') ∧ w.length ≤ 40 ∧ (∀ c ∈ w, c ∈ cs) ∧ IsWell row' := by
  obtain ⟨a, r1, t1, a0, a1, w1⟩ := hW.run row 10 hr (by decide) (by decide)
  obtain ⟨b, r2, t2, b0, b1, w2⟩ := hW.run r1 41 w1 (by decide) (by decide)
  obtain ⟨c, r3, t3, c0, c1, w3⟩ := hW.run r2 9 w2 (by decide) (by decide)
  obtain ⟨m, em, m0, m1⟩ : ∃ m : Int, semAt (.lst [.int 0, .int 1, .int 2, .int 3, .int 4, .int 5, .int a, .int b, .int 40]) (.int c) = some (.val (.int m)) ∧ 0 ≤ m ∧ m ≤ 40 := by
    rcases (by omega : c = 0 ∨ c = 1 ∨ c = 2 ∨ c = 3 ∨ c = 4 ∨ c = 5 ∨ c = 6 ∨ c = 7 ∨ c = 8) with rfl | rfl | rfl | rfl | rfl | rfl | rfl | rfl | rfl
    · exact ⟨0, rfl, by decide, by decide⟩
    · exact ⟨1, rfl, by decide, by decide⟩
    · exact ⟨2, rfl, by decide, by decide⟩
    · exact ⟨3, rfl, by decide, by decide⟩
    · exact ⟨4, rfl, by decide, by decide⟩
    · exact ⟨5, rfl, by decide, by decide⟩
    · exact ⟨a, rfl, a0, by omega⟩
    · exact ⟨b, rfl, b0, by omega⟩
    · exact ⟨40, rfl, by decide, by decide⟩
  obtain ⟨v, r4, t4, p1, p2, p3, w4⟩ := h2.run r3 cs w3 hc hc2 hl
  obtain ⟨d, r5, t5, d0, d1, w5⟩ := hW.run r4 2 w4 (by decide) (by decide)
  obtain ⟨so, eso, s1, s2, s3⟩ : ∃ so : List Nat, semAt (.lst [tx cs, tx v]) (.int d) = some (.val (tx so)) ∧ 0 < so.length ∧ so.length ≤ 900 ∧ ∀ c ∈ so, c ∈ cs := by
    rcases (by omega : d = 0 ∨ d = 1) with rfl | rfl
    · exact ⟨cs, rfl, hc, hc2, fun _ h => h⟩
    · exact ⟨v, rfl, p1, p2, p3⟩
  let st : Dat → Rho := fun row => [some ⟨row, .io⟩, some ⟨tx cs, .fz⟩, some ⟨.int m, .fz⟩, some ⟨tx so, .fz⟩, none]
  obtain ⟨w, r6, q1, q2, q3, w6⟩ := comp_one h1 (st := st) s1 s2 (own := [4]) (tg := .name 4) (elt := .call "_law_one_of" (.cons (.var 0) (.cons (.var 3) .nil))) (rangeD 0 m.toNat) w5 (by
    intro d hd row row' c t
    simp [st, turnC, bindT, look, res, frz, lend, resAll, giveBack, h1.io, t, wipeR])
  rw [rangeD_len] at q2
  refine ⟨w, r6, ?_, by omega, fun c hc => s3 c (q3 c hc), w6⟩
  have src : runI W (.rng1 (.var 2)) (st r5) = some (rangeD 0 m.toNat, st r5) := by
    have := small_line (n := m.toNat) (by omega)
    simp [runI_rng1, st, look, res]
    omega
  have e3 : Dl.run W (.comp [4] (.name 4) (.rng1 (.var 2)) .no (.call "_law_one_of" (.cons (.var 0) (.cons (.var 3) .nil)))) (st r5) = some (.fresh (.lst ((w.map sg).map .str)), st r6) := by
    rw [run_comp, src]
    show Option.bind (compD _ _ (st r5)) _ = _
    rw [q1]
    simp [st, back, look]
  have j := semJoin_signs w (by omega)
  refine runD_val (r := st r6) rfl ?_ rfl
  refine (runB_next (r' := [some ⟨r3, .io⟩, some ⟨tx cs, .fz⟩, some ⟨.int m, .fz⟩, none, none]) ?_).trans ?_
  · simp [startR, d_law_word, look, res, frz, lend, resAll, giveBack, hW.io, t1, t2, t3, sem2, pre2, em, store]
  refine (runB_next (r' := st r5) ?_).trans ?_
  · simp [st, look, res, frz, lend, resAll, giveBack, hW.io, h2.io, t4, t5, sem2, pre2, eso, store]
  refine runB_ret ?_
  rw [runS_ret, run_op2, run_str]
  simp [res, pre2, isStr, e3, sem2] at j ⊢
  simp [j, tx]
/-! ### sameness -/
theorem same_str (W : Wd) (n : Nat) (x : Str) : runD W n d_law_same [.str x, .str x] = some (.val (.bl true), .non) := by
  refine runD_val (r := [some ⟨.str x, .fz⟩, some ⟨.str x, .fz⟩, none, none]) rfl ?_ rfl
  have k1 : semIsi "bool" (.str x) = some (.val (.bl false)) := rfl
  have k2 : semIsi "int" (.str x) = some (.val (.bl false)) := rfl
  have k3 : semIsi "str" (.str x) = some (.val (.bl true)) := rfl
  simp [startR, d_law_same, look, res, frz, sem1, sem2, semIs, semEq, eqD, k1, k2, k3, truthD, pre2]
structure HasSame (W : Wd) : Prop where
  io : W.io "_law_same" = some none
  str : ∀ x : Str, W.phi "_law_same" [.str x, .str x] = some (.val (.bl true), .non)
theorem same_strs {W : Wd} (n : Nat) (hS : HasSame W) (xs : List Str) (hx : xs.length ≤ 100000) : runD W n d_law_same [.lst (xs.map .str), .lst (xs.map .str)] = some (.val (.bl true), .non) := by
  have k1 : semIsi "bool" (.lst (xs.map .str)) = some (.val (.bl false)) := rfl
  have k2 : semIsi "int" (.lst (xs.map .str)) = some (.val (.bl false)) := rfl
  have k3 : semIsi "str" (.lst (xs.map .str)) = some (.val (.bl false)) := rfl
  have k4 : semIsi "tuple" (.lst (xs.map .str)) = some (.val (.bl false)) := rfl
  have k5 : semIsi "list" (.lst (xs.map .str)) = some (.val (.bl true)) := rfl
  obtain ⟨r', lp, rfl⟩ := forD_inv (f := stepF W n (.tup [2, 3]) (.cons (.ife (.not (.val (.call "_law_same" (.cons (.var 2) (.cons (.var 3) .nil))))) (.cons (.ret (.bl false)) .nil) .nil) .nil)) (wp := [0, 1, 2, 3]) (fun _ r => r = [none, none, none, none]) (zipD (xs.map .str) (xs.map .str)) [] _ rfl (by
    rintro pre d post r _ hd rfl
    obtain ⟨i, hi, e⟩ := List.getElem_of_mem hd
    obtain ⟨x, y, ex, ey, rfl⟩ := zipD_get _ _ _ _ ((List.getElem?_eq_getElem hi).trans (congrArg some e))
    rw [ex] at ey
    cases ey
    rw [List.getElem?_map] at ex
    cases hz : xs[i]? with
    | none => rw [hz] at ex; cases ex
    | some z =>
      rw [hz] at ex
      cases ex
      refine ⟨[none, none, some ⟨.str z, .fz⟩, some ⟨.str z, .fz⟩], ?_, rfl⟩
      simp [stepF, bindT, Dl.putAll, look, res, frz, resAll, giveBack, hS.io, hS.str, truthD])
  refine runD_val (r := [none, none, none, none]) rfl ?_ rfl
  refine (runB_next (r' := [some ⟨.lst (xs.map .str), .fz⟩, some ⟨.lst (xs.map .str), .fz⟩, none, none]) ?_).trans ?_
  · simp [startR, d_law_same, look, res, frz, sem2, semIs]
  refine (runB_next (r' := [some ⟨.lst (xs.map .str), .fz⟩, some ⟨.lst (xs.map .str), .fz⟩, none, none]) ?_).trans ?_
  · simp [look, res, frz, sem1, k1, truthD]
  refine (runB_next (r' := [some ⟨.lst (xs.map .str), .fz⟩, some ⟨.lst (xs.map .str), .fz⟩, none, none]) ?_).trans ?_
  · simp [look, res, frz, sem1, k2, truthD]
  refine (runB_next (r' := [some ⟨.lst (xs.map .str), .fz⟩, some ⟨.lst (xs.map .str), .fz⟩, none, none]) ?_).trans ?_
  · simp [look, res, frz, sem1, k3, truthD]
  refine (runB_next (r' := [some ⟨.lst (xs.map .str), .fz⟩, some ⟨.lst (xs.map .str), .fz⟩, none, none]) ?_).trans ?_
  · simp [look, res, frz, sem1, k4, truthD]
  refine (runB_next (r' := [some ⟨.lst (xs.map .str), .fz⟩, some ⟨.lst (xs.map .str), .fz⟩, none, none]) ?_).trans ?_
  · simp [look, res, frz, sem1, k5, truthD]
  refine (runB_next (r' := [some ⟨.lst (xs.map .str), .fz⟩, some ⟨.lst (xs.map .str), .fz⟩, none, none]) ?_).trans ?_
  · simp [look, res, frz, sem1, semLen, sem2, semNe, eqD]
  refine (runB_next (r' := [none, none, none, none]) ?_).trans ?_
  · rw [runS_for]
    simp [look, frz, items] at lp ⊢
    simp [wipeR] at lp ⊢
    exact lp
  · simp
end Dw

/-! S1: the steps of the program (one_turned, two_turned, called, after), as they run. -/
namespace Ds
open PySem PySem.Spec PyProof.Rows L2 Dl Dw
def d_guard_holds : Df := { N := ["guard", "word", "place", "beside", "held", "how", "where", "some", "letter"], ps := 3, io := none, body :=
    (.cons (.ife (.cmp .is (.var 0) .non) (.cons (.ret (.bl true))
    .nil) .nil)
    (.cons (.unp [5, 6, 7] (.var 0))
    (.cons (.set 3 (.op2 .add (.cut (.var 1) .no (.yes (.var 2))) (.cut (.var 1) (.yes (.op2 .add (.var 2) (.int 1))) .no)))
    (.cons (.ife (.cmp .eq (.var 6) (.str "left")) (.cons (.set 3 (.cut (.var 1) .no (.yes (.var 2))))
    .nil) (.cons (.ife (.cmp .eq (.var 6) (.str "right")) (.cons (.set 3 (.cut (.var 1) (.yes (.op2 .add (.var 2) (.int 1))) .no))
    .nil) .nil)
    .nil))
    (.cons (.set 4 (.comp [8] (.name 8) (.seq (.var 3)) .no (.op2 .isIn (.var 8) (.var 7))))
    (.cons (.ife (.cmp .eq (.var 5) (.str "all")) (.cons (.ret (.op2 .notIn (.bl false) (.var 4)))
    .nil) .nil)
    (.cons (.ret (.op2 .isIn (.bl true) (.var 4)))
    .nil))))))) }
def d_one_turned : Df := { N := ["rule", "word", "found", "place", "letter"], ps := 2, io := none, body :=
    (.cons (.set 2 (.lst .nil))
    (.cons (.for_ (.tup [3, 4]) (.enm (.cons (.var 1) .nil)) (.cons (.ife (.and (.cmp .eq (.var 4) (.op2 .at (.var 0) (.int 1))) (.val (.call "guard_holds" (.cons (.op2 .at (.var 0) (.int 3)) (.cons (.var 1) (.cons (.var 3) .nil)))))) (.cons (.expr (.app 2 (.op2 .add (.op2 .add (.cut (.var 1) .no (.yes (.var 3))) (.op2 .at (.var 0) (.int 2))) (.cut (.var 1) (.yes (.op2 .add (.var 3) (.int 1))) .no))))
    .nil) .nil)
    .nil) [3, 4])
    (.cons (.ret (.var 2))
    .nil))) }
def d_neighbours_of : Df := { N := ["shape", "word", "pairs", "place"], ps := 2, io := none, body :=
    (.cons (.set 2 (.comp [3] (.name 3) (.rng1 (.op2 .sub (.op1 .len (.var 1)) (.int 1))) .no (.tup (.cons (.var 3) (.cons (.op2 .add (.var 3) (.int 1)) .nil)))))
    (.cons (.ife (.and (.cmp .eq (.var 0) (.str "ring")) (.cmp .gt (.op1 .len (.var 1)) (.int 1))) (.cons (.expr (.app 2 (.tup (.cons (.op2 .sub (.op1 .len (.var 1)) (.int 1)) (.cons (.int 0) .nil)))))
    .nil) .nil)
    (.cons (.ret (.var 2))
    .nil))) }
def d_two_turned : Df := { N := ["shape", "rule", "word", "found", "place", "beside", "signs"], ps := 3, io := none, body :=
    (.cons (.set 3 (.lst .nil))
    (.cons (.for_ (.tup [4, 5]) (.seq (.call "neighbours_of" (.cons (.var 0) (.cons (.var 2) .nil)))) (.cons (.ife (.and (.cmp .eq (.op2 .at (.var 2) (.var 4)) (.op2 .at (.var 1) (.int 1))) (.cmp .eq (.op2 .at (.var 2) (.var 5)) (.op2 .at (.var 1) (.int 2)))) (.cons (.set 6 (.op1 .list (.var 2)))
    (.cons (.setAt 6 (.var 4) (.op2 .at (.var 1) (.int 3)))
    (.cons (.setAt 6 (.var 5) (.op2 .at (.var 1) (.int 4)))
    (.cons (.expr (.app 3 (.op2 .join (.str "") (.var 6))))
    .nil)))) .nil)
    .nil) [0, 4, 5, 6])
    (.cons (.ret (.var 3))
    .nil))) }
def d_called : Df := { N := ["letters", "rule", "word", "image", "found", "place", "letter"], ps := 3, io := none, body :=
    (.cons (.set 3 (.op2 .join (.str "") (.comp [6] (.name 6) (.seq (.var 2)) .no (.op2 .at (.op2 .at (.var 1) (.int 3)) (.op2 .index (.var 0) (.var 6))))))
    (.cons (.set 4 (.lst .nil))
    (.cons (.for_ (.tup [5, 6]) (.enm (.cons (.var 2) .nil)) (.cons (.ife (.cmp .eq (.var 6) (.op2 .at (.var 1) (.int 1))) (.cons (.expr (.app 4 (.op2 .add (.op2 .add (.cut (.var 3) .no (.yes (.var 5))) (.op2 .at (.var 1) (.int 2))) (.cut (.var 3) (.yes (.op2 .add (.var 5) (.int 1))) .no))))
    .nil) .nil)
    .nil) [0, 2, 5, 6])
    (.cons (.ret (.var 4))
    .nil)))) }
def d_after : Df := { N := ["letters", "shape", "rule", "word", "found"], ps := 4, io := none, body :=
    (.cons (.ife (.cmp .eq (.op2 .at (.var 2) (.int 0)) (.str "one")) (.cons (.set 4 (.call "one_turned" (.cons (.var 2) (.cons (.var 3) .nil))))
    .nil) (.cons (.ife (.cmp .eq (.op2 .at (.var 2) (.int 0)) (.str "two")) (.cons (.set 4 (.call "two_turned" (.cons (.var 1) (.cons (.var 2) (.cons (.var 3) .nil)))))
    .nil) (.cons (.set 4 (.call "called" (.cons (.var 0) (.cons (.var 2) (.cons (.var 3) .nil)))))
    .nil))
    .nil))
    (.cons (.ret (.op1 .sset (.var 4)))
    .nil)) }
/-! ### the plain law: two ways to ask a guard -/
inductive Wh where
  | left | right | others
def Wh.s : Wh → Str
  | .left => "left"
  | .right => "right"
  | .others => "others"
def beside (wh : Wh) (w : List Nat) (p : Nat) : List Nat := match wh with
  | .left => w.take p
  | .right => w.drop (p + 1)
  | .others => w.take p ++ w.drop (p + 1)
/-- a guard -/
inductive Gd where
  | no | yes (all : Bool) (wh : Wh) (so : List Nat)
def howS (all : Bool) : Str := if all then "all" else "some"
def Gd.d : Gd → Dat
  | .no => .non
  | .yes all wh so => .tup [.str (howS all), .str wh.s, tx so]
def holds (g : Gd) (w : List Nat) (p : Nat) : Bool := match g with
  | .no => true
  | .yes true wh so => (beside wh w p).all fun c => decide (c ∈ so)
  | .yes false wh so => (beside wh w p).any fun c => decide (c ∈ so)
/-- the places beside -/
def places (wh : Wh) (n p : Nat) : List Nat :=
  let o := (List.range n).filter fun k => decide (k ≠ p)
  match wh with
  | .left => o.filter fun k => decide (k < p)
  | .right => o.filter fun k => !decide (k < p)
  | .others => o
theorem range_at {n p : Nat} (h : p < n) : List.range n = List.range p ++ p :: (List.range (n - p - 1)).map (· + (p + 1)) := by
  refine List.ext_getElem? fun i => ?_
  by_cases h1 : i < p
  · rw [List.getElem?_append_left (by rw [List.length_range]; exact h1), List.getElem?_range (by omega), List.getElem?_range h1]
  · rw [List.getElem?_append_right (by rw [List.length_range]; omega), List.length_range]
    by_cases h2 : i = p
    · subst h2
      rw [Nat.sub_self, List.getElem?_range h]
      rfl
    · obtain ⟨j, hj⟩ : ∃ j, i - p = j + 1 := ⟨i - p - 1, by omega⟩
      rw [hj, List.getElem?_cons_succ, List.getElem?_map]
      by_cases h3 : i < n
      · rw [List.getElem?_range h3, List.getElem?_range (by omega)]
        simp
        omega
      · rw [List.getElem?_eq_none (by rw [List.length_range]; omega), List.getElem?_eq_none (by rw [List.length_range]; omega)]
        rfl
theorem filter_all {α : Type} {f : α → Bool} : ∀ {l : List α}, (∀ x ∈ l, f x = true) → l.filter f = l := fun h => List.filter_eq_self.mpr h
theorem filter_none {α : Type} {f : α → Bool} {l : List α} (h : ∀ x ∈ l, f x = false) : l.filter f = [] := by
  rw [List.filter_eq_nil_iff]
  intro x hx z
  rw [h x hx] at z
  cases z
theorem others_eq {n p : Nat} (h : p < n) : (List.range n).filter (fun k => decide (k ≠ p)) = List.range p ++ (List.range (n - p - 1)).map (· + (p + 1)) := by
  rw [range_at h, List.filter_append, List.filter_cons, if_neg (by simp), filter_all, filter_all]
  · intro x hx
    obtain ⟨k, _, rfl⟩ := List.mem_map.mp hx
    exact decide_eq_true (by omega)
  · intro x hx
    rw [List.mem_range] at hx
    exact decide_eq_true (by omega)
theorem take_range {w : List Nat} {p : Nat} (h : p ≤ w.length) : (List.range p).map (fun k => w.getD k 0) = w.take p := by
  refine List.ext_getElem? fun i => ?_
  rw [List.getElem?_map, List.getElem?_take]
  by_cases h1 : i < p
  · rw [List.getElem?_range h1, if_pos h1, List.getElem?_eq_getElem (by omega)]
    simp [List.getD_eq_getElem?_getD, List.getElem?_eq_getElem (show i < w.length by omega)]
  · rw [List.getElem?_eq_none (by rw [List.length_range]; omega), if_neg h1]
    rfl
theorem drop_range {w : List Nat} {p : Nat} (h : p < w.length) : ((List.range (w.length - p - 1)).map (· + (p + 1))).map (fun k => w.getD k 0) = w.drop (p + 1) := by
  refine List.ext_getElem? fun i => ?_
  rw [List.getElem?_map, List.getElem?_map, List.getElem?_drop]
  by_cases h1 : i < w.length - p - 1
  · rw [List.getElem?_range h1, List.getElem?_eq_getElem (by omega)]
    have e : i + (p + 1) = p + 1 + i := by omega
    simp [List.getD_eq_getElem?_getD, e, List.getElem?_eq_getElem (show p + 1 + i < w.length by omega)]
  · rw [List.getElem?_eq_none (by rw [List.length_range]; omega), List.getElem?_eq_none (by omega)]
    rfl
theorem places_beside (wh : Wh) {w : List Nat} {p : Nat} (h : p < w.length) : (places wh w.length p).map (fun k => w.getD k 0) = beside wh w p := by
  have l : ∀ x ∈ List.range p, x < p := fun x hx => List.mem_range.mp hx
  have g : ∀ x ∈ (List.range (w.length - p - 1)).map (· + (p + 1)), ¬ x < p := fun x hx => by
    obtain ⟨k, _, rfl⟩ := List.mem_map.mp hx
    omega
  unfold places beside
  rw [others_eq h]
  cases wh with
  | left =>
    dsimp only
    rw [List.filter_append, filter_all (fun x hx => decide_eq_true (l x hx)), filter_none (fun x hx => decide_eq_false (g x hx)), List.append_nil]
    exact take_range (by omega)
  | right =>
    dsimp only
    rw [List.filter_append, filter_none (fun x hx => by rw [decide_eq_true (l x hx)]; rfl), filter_all (fun x hx => by rw [decide_eq_false (g x hx)]; rfl), List.nil_append]
    exact drop_range h
  | others =>
    dsimp only
    rw [List.map_append, take_range (by omega), drop_range h]
theorem places_lt {wh : Wh} {n p k : Nat} (h : k ∈ places wh n p) : k < n := by
  unfold places at h
  cases wh with
  | left => exact List.mem_range.mp (List.mem_filter.mp (List.mem_filter.mp h).1).1
  | right => exact List.mem_range.mp (List.mem_filter.mp (List.mem_filter.mp h).1).1
  | others => exact List.mem_range.mp (List.mem_filter.mp h).1
/-- how many of the places hold one of so -/
def yesN (wh : Wh) (w so : List Nat) (p : Nat) : Nat := ((places wh w.length p).filter fun k => decide (w.getD k 0 ∈ so)).length
theorem yes_any {wh : Wh} {w so : List Nat} {p : Nat} (h : p < w.length) : decide ((yesN wh w so p : Int) > 0) = (beside wh w p).any fun c => decide (c ∈ so) := by
  rw [← places_beside wh h, List.any_map]
  unfold yesN
  generalize places wh w.length p = l
  induction l with
  | nil => rfl
  | cons x l ih =>
    rw [List.any_cons, ← ih]
    by_cases hx : w.getD x 0 ∈ so
    · rw [List.filter_cons, if_pos (decide_eq_true hx), Function.comp_apply, decide_eq_true hx, Bool.true_or]
      exact decide_eq_true (by rw [List.length_cons]; omega)
    · rw [List.filter_cons, if_neg (by simpa using hx), Function.comp_apply, decide_eq_false hx, Bool.false_or]
theorem yes_all {wh : Wh} {w so : List Nat} {p : Nat} (h : p < w.length) : decide ((yesN wh w so p : Int) = ((places wh w.length p).length : Nat)) = (beside wh w p).all fun c => decide (c ∈ so) := by
  rw [← places_beside wh h, List.all_map]
  unfold yesN
  generalize places wh w.length p = l
  have le : ∀ l : List Nat, (l.filter fun k => decide (w.getD k 0 ∈ so)).length ≤ l.length := fun l => List.length_filter_le _ _
  induction l with
  | nil => rfl
  | cons x l ih =>
    rw [List.all_cons, ← ih]
    by_cases hx : w.getD x 0 ∈ so
    · rw [List.filter_cons, if_pos (decide_eq_true hx), Function.comp_apply, decide_eq_true hx, Bool.true_and, List.length_cons, List.length_cons]
      by_cases hq : (l.filter fun k => decide (w.getD k 0 ∈ so)).length = l.length
      · rw [decide_eq_true (by omega), decide_eq_true (by omega)]
      · rw [decide_eq_false (by omega), decide_eq_false (by omega)]
    · rw [List.filter_cons, if_neg (by simpa using hx), Function.comp_apply, decide_eq_false hx, Bool.false_and]
      have := le l
      exact decide_eq_false (by rw [List.length_cons]; omega)
/-- what a rule of one makes of a word -/
def o1 (w : List Nat) (a b : Nat) (g : Gd) (p : Nat) : Option Str := if w.getD p 0 = a ∧ holds g w p = true then some ⟨(w.set p b).toArray⟩ else none
def oS1 (w : List Nat) (a b : Nat) (g : Gd) : List Str := (List.range w.length).filterMap (o1 w a b g)
def rule1 (a b : Nat) (g : Gd) : Dat := .tup [.str "one", .str (sg a), .str (sg b), g.d]
theorem cut_to {w : List Nat} {p : Nat} (h : p ≤ w.length) : semCut (tx w) none (some (p : Nat)) = some (.val (tx (w.take p))) := by
  have e : cutS ⟨w.toArray⟩ none (some (p : Nat)) = ⟨(w.take p).toArray⟩ := by
    unfold cutS
    rw [HT.sIx_none, HT.sIx_nat]
    have hz : (⟨w.toArray⟩ : Str).length = w.length := rfl
    rw [hz, Nat.min_eq_left h, List.drop_zero, Nat.sub_zero]
  show some (Out.val (.str (cutS ⟨w.toArray⟩ none (some (p : Nat))))) = _
  rw [e]
  rfl
theorem cut_from {w : List Nat} {p : Nat} (h : p ≤ w.length) : semCut (tx w) (some (p : Nat)) none = some (.val (tx (w.drop p))) := by
  have e : cutS ⟨w.toArray⟩ (some (p : Nat)) none = ⟨(w.drop p).toArray⟩ := by
    unfold cutS
    rw [HT.sIx_none, HT.sIx_nat]
    have hz : (⟨w.toArray⟩ : Str).length = w.length := rfl
    rw [hz, Nat.min_eq_left h, List.take_of_length_le (by rw [List.length_drop]; exact Nat.le_refl _)]
  show some (Out.val (.str (cutS ⟨w.toArray⟩ (some (p : Nat)) none))) = _
  rw [e]
  rfl
theorem add_tx {a b : List Nat} (h : a.length + b.length ≤ 1000) : semAdd (tx a) (tx b) = some (.val (tx (a ++ b))) := by
  have e : (⟨a.toArray⟩ : Str) ++ ⟨b.toArray⟩ = ⟨(a ++ b).toArray⟩ := by
    apply TL.ext_tl
    rw [TL.tl_append]
  unfold semAdd tx
  show (if a.length + b.length ≤ sizeLine then some (Out.val (.str ((⟨a.toArray⟩ : Str) ++ ⟨b.toArray⟩))) else none) = _
  rw [if_pos (small_line h), e]
theorem any_false (bs : List Bool) : (bs.map Dat.bl).any (fun z => feq z (.bl false)) = !bs.all id := by
  induction bs with
  | nil => rfl
  | cons b bs ih =>
    rw [List.map_cons, List.any_cons, ih, List.all_cons]
    cases b <;> simp [feq, toV, eqV]
theorem any_true (bs : List Bool) : (bs.map Dat.bl).any (fun z => feq z (.bl true)) = bs.any id := by
  induction bs with
  | nil => rfl
  | cons b bs ih =>
    rw [List.map_cons, List.any_cons, ih, List.any_cons]
    cases b <;> simp [feq, toV, eqV]
theorem flat_bls (bs : List Bool) : (bs.map Dat.bl).all flatD = true := by
  rw [List.all_eq_true]
  intro x hx
  obtain ⟨b, _, rfl⟩ := List.mem_map.mp hx
  rfl
theorem notIn_bls (bs : List Bool) : semNotIn (.bl false) (.lst (bs.map .bl)) = some (.val (.bl (bs.all id))) := by
  unfold semNotIn inD
  dsimp only
  rw [if_pos ⟨rfl, flat_bls bs⟩, any_false]
  simp
theorem in_bls (bs : List Bool) : semIn (.bl true) (.lst (bs.map .bl)) = some (.val (.bl (bs.any id))) := by
  unfold semIn inD
  dsimp only
  rw [if_pos ⟨rfl, flat_bls bs⟩, any_true]
  rfl
theorem in_tx (c : Nat) (so : List Nat) : semIn (.str (sg c)) (tx so) = some (.val (.bl (decide (c ∈ so)))) := rfl
def inB (so : List Nat) : Dat → Dat
  | .str x => .bl (inS x ⟨so.toArray⟩)
  | d => d
theorem beside_len (wh : Wh) (w : List Nat) (p : Nat) : (beside wh w p).length ≤ w.length := by
  unfold beside
  cases wh with
  | left => dsimp only; rw [List.length_take]; omega
  | right => dsimp only; rw [List.length_drop]; omega
  | others => dsimp only; rw [List.length_append, List.length_take, List.length_drop]; omega
theorem guard_run (W : Wd) (n : Nat) (g : Gd) {w : List Nat} {p : Nat} (hw : w.length ≤ 900) (hp : p < w.length) : runD W n d_guard_holds [g.d, tx w, .int (p : Nat)] = some (.val (.bl (holds g w p)), .non) := by
  cases g with
  | no =>
    refine runD_val (r := [some ⟨.non, .fz⟩, some ⟨tx w, .fz⟩, some ⟨.int (p : Nat), .fz⟩, none, none, none, none, none, none]) rfl ?_ rfl
    simp [startR, d_guard_holds, Gd.d, look, res, sem2, semIs, holds]
  | yes all wh so =>
    let gd : Dat := .tup [.str (howS all), .str wh.s, tx so]
    let r0 : Option Sl → Option Sl → Rho := fun b h => [some ⟨gd, .fz⟩, some ⟨tx w, .fz⟩, some ⟨.int (p : Nat), .fz⟩, b, h, some ⟨.str (howS all), .fz⟩, some ⟨.str wh.s, .fz⟩, some ⟨tx so, .fz⟩, none]
    have c1 := cut_to (w := w) (p := p) (by omega)
    have c2 := cut_from (w := w) (p := p + 1) (by omega)
    have e1 : ((p + 1 : Nat) : Int) = (p : Int) + 1 := by omega
    rw [e1] at c2
    have ad : semAdd (.int (p : Nat)) (.int 1) = some (.val (.int ((p : Int) + 1))) := rfl
    have ad2 := add_tx (a := w.take p) (b := w.drop (p + 1)) (by rw [List.length_take, List.length_drop]; omega)
    let bs : List Bool := (beside wh w p).map fun c => decide (c ∈ so)
    refine runD_val (r := r0 (some ⟨tx (beside wh w p), .fz⟩) (some ⟨.lst (bs.map .bl), .own⟩)) rfl ?_ rfl
    refine (runB_next (r' := [some ⟨gd, .fz⟩, some ⟨tx w, .fz⟩, some ⟨.int (p : Nat), .fz⟩, none, none, none, none, none, none]) ?_).trans ?_
    · simp [startR, d_guard_holds, Gd.d, gd, look, res, sem2, semIs]
    refine (runB_next (r' := r0 none none) ?_).trans ?_
    · simp [r0, gd, look, res, frz, Dl.putAll]
    refine (runB_next (r' := r0 (some ⟨tx (beside .others w p), .fz⟩) none) ?_).trans ?_
    · simp [r0, look, res, c1, c2, ad, ad2, sem2, pre2, store, beside]
    refine (runB_next (r' := r0 (some ⟨tx (beside wh w p), .fz⟩) none) ?_).trans ?_
    · have n1 : ¬ ("right" : Str) = ("left" : Str) := by decide
      have n2 : ¬ ("others" : Str) = ("left" : Str) := by decide
      have n3 : ¬ ("others" : Str) = ("right" : Str) := by decide
      cases wh with
      | left => simp [r0, Wh.s, look, res, sem2, semEq, eqD, c1, store, beside]
      | right => simp [r0, Wh.s, look, res, sem2, semEq, eqD, n1, c2, ad, pre2, store, beside]
      | others => simp [r0, Wh.s, look, res, sem2, semEq, eqD, n2, n3]
    refine (runB_next (r' := r0 (some ⟨tx (beside wh w p), .fz⟩) (some ⟨.lst (bs.map .bl), .own⟩)) ?_).trans ?_
    · have src : runI W (.seq (.var 3)) (r0 (some ⟨tx (beside wh w p), .fz⟩) none) = some (((beside wh w p).map sg).map .str, r0 (some ⟨tx (beside wh w p), .fz⟩) none) := by
        simp only [runI_seq, run_var]
        rfl
      have cm : compD (turnC W [8] (.name 8) .no (.op2 .isIn (.var 8) (.var 7))) (((beside wh w p).map sg).map .str) (r0 (some ⟨tx (beside wh w p), .fz⟩) none) = some ((((beside wh w p).map sg).map Dat.str).map (inB so), r0 (some ⟨tx (beside wh w p), .fz⟩) none) := by
        refine compD_map _ _ _ fun d hd => ?_
        obtain ⟨s, hs, rfl⟩ := List.mem_map.mp hd
        obtain ⟨c, hc, rfl⟩ := List.mem_map.mp hs
        have := in_tx c so
        have ib : inB so (.str (sg c)) = .bl (decide (c ∈ so)) := by simp [inB, inS, sg]
        simp [r0, turnC, bindT, look, res, frz, sem2, pre2, this, wipeR, ib]
      have em : (((beside wh w p).map sg).map Dat.str).map (inB so) = bs.map .bl := by
        simp only [bs, List.map_map]
        refine List.map_congr_left fun c hc => ?_
        simp [inB, inS, sg]
      rw [em] at cm
      rw [runS_set, run_comp, src]
      show Option.bind (Option.bind (compD _ _ (r0 (some ⟨tx (beside wh w p), .fz⟩) none)) _) _ = _
      rw [cm]
      simp [r0, back, look, store]
    have b1 := notIn_bls bs
    have b2 := in_bls bs
    cases all with
    | true =>
      have eh : holds (.yes true wh so) w p = bs.all id := by
        unfold holds
        simp only [bs, List.all_map]
        rfl
      have ey : howS true = ("all" : Str) := rfl
      simp [r0, look, res, sem2, semEq, eqD, ey, pre2, b1, eh]
    | false =>
      have eh : holds (.yes false wh so) w p = bs.any id := by
        unfold holds
        simp only [bs, List.any_map]
        rfl
      have en : ¬ howS false = ("all" : Str) := by decide
      simp [r0, look, res, sem2, semEq, eqD, en, pre2, b2, eh]
structure HasGuard (W : Wd) : Prop where
  io : W.io "guard_holds" = some none
  run : ∀ (g : Gd) (w : List Nat) (p : Nat), w.length ≤ 900 → p < w.length → W.phi "guard_holds" [g.d, tx w, .int (p : Nat)] = some (.val (.bl (holds g w p)), .non)
theorem at_tx {w : List Nat} {p : Nat} (h : p < w.length) : semAt (tx w) (.int (p : Nat)) = some (.val (.str (sg (w.getD p 0)))) := by
  show (atI w _).map _ = _
  rw [atI_nat (List.getElem?_eq_getElem h)]
  simp [List.getD_eq_getElem?_getD, List.getElem?_eq_getElem h, sg]
theorem set_cut {w : List Nat} {p b : Nat} (h : p < w.length) : w.take p ++ [b] ++ w.drop (p + 1) = w.set p b := by
  rw [List.set_eq_take_append_cons_drop, if_pos h, List.append_assoc]
  rfl
theorem sg_ne {a b : Nat} (h : ¬ a = b) : ¬ sg a = sg b := fun z => h (sg_inj z)
theorem one_run (W : Wd) (n : Nat) (hG : HasGuard W) {w : List Nat} (hw : w.length ≤ 900) (a b : Nat) (g : Gd) : runD W n d_one_turned [rule1 a b g, tx w] = some (.fresh (.lst ((oS1 w a b g).map .str)), .non) := by
  let st : List Dat → Rho := fun acc => [some ⟨rule1 a b g, .fz⟩, some ⟨tx w, .fz⟩, some ⟨.lst acc, .own⟩, none, none]
  have r1 : semAt (rule1 a b g) (.int 1) = some (.val (.str (sg a))) := rfl
  have r2 : semAt (rule1 a b g) (.int 2) = some (.val (tx [b])) := rfl
  have r3 : semAt (rule1 a b g) (.int 3) = some (.val g.d) := rfl
  let F : Dat → Option Dat := fun x => match x with
    | .tup [.int p, _] => (o1 w a b g p.toNat).map .str
    | _ => none
  have loop := forD_app (f := stepF W n (.tup [3, 4]) (.cons (.ife (.and (.cmp .eq (.var 4) (.op2 .at (.var 0) (.int 1))) (.val (.call "guard_holds" (.cons (.op2 .at (.var 0) (.int 3)) (.cons (.var 1) (.cons (.var 3) .nil)))))) (.cons (.expr (.app 2 (.op2 .add (.op2 .add (.cut (.var 1) .no (.yes (.var 3))) (.op2 .at (.var 0) (.int 2))) (.cut (.var 1) (.yes (.op2 .add (.var 3) (.int 1))) .no))))
    .nil) .nil)
    .nil)) (wp := [3, 4]) st F (enumD 0 ((w.map sg).map .str)) (by
    intro p x acc hx ha
    obtain ⟨y, ey, rfl⟩ := enumD_get _ _ _ _ hx
    rw [Nat.zero_add]
    rw [List.getElem?_map, List.getElem?_map] at ey
    cases hq : w[p]? with
    | none => rw [hq] at ey; cases ey
    | some c =>
      rw [hq] at ey
      cases ey
      have hp : p < w.length := (List.getElem?_eq_some_iff.mp hq).1
      have hc : w.getD p 0 = c := by rw [List.getD_eq_getElem?_getD, hq]; rfl
      have hsz : acc.length < sizeLine := Nat.lt_of_le_of_lt ha (small1000 (by omega))
      have c1 := cut_to (w := w) (p := p) (by omega)
      have c2 := cut_from (w := w) (p := p + 1) (by omega)
      have e1 : ((p + 1 : Nat) : Int) = (p : Int) + 1 := by omega
      rw [e1] at c2
      have ad : semAdd (.int (p : Nat)) (.int 1) = some (.val (.int ((p : Int) + 1))) := rfl
      have ad1 := add_tx (a := w.take p) (b := [b]) (by rw [List.length_take]; show _ + 1 ≤ _; omega)
      have ad2 := add_tx (a := w.take p ++ [b]) (b := w.drop (p + 1)) (by rw [List.length_append, List.length_take, List.length_drop]; show _ + 1 + _ ≤ _; omega)
      rw [set_cut hp] at ad2
      have gr := hG.run g w p hw hp
      have eF : F (.tup [.int (p : Nat), .str (sg c)]) = (o1 w a b g p).map .str := by
        show (o1 w a b g ((p : Nat) : Int).toNat).map Dat.str = _
        rw [Int.toNat_natCast]
      rw [eF]
      unfold o1
      rw [hc]
      by_cases h1 : c = a
      · subst h1
        cases hh : holds g w p with
        | true =>
          rw [hh] at gr
          refine ⟨[some ⟨rule1 c b g, .fz⟩, some ⟨tx w, .fz⟩, some ⟨.lst (acc ++ [tx (w.set p b)]), .own⟩, some ⟨.int (p : Nat), .fz⟩, some ⟨.str (sg c), .fz⟩], ?_, ?_⟩
          · simp [st, stepF, bindT, Dl.putAll, look, res, frz, resAll, giveBack, hG.io, gr, sem2, semEq, eqD, r1, r2, r3, truthD, c1, c2, ad, ad1, ad2, pre2, run_app, isLst, hsz]
          · rw [if_pos ⟨rfl, rfl⟩]
            simp [st, wipeR, tx]
        | false =>
          rw [hh] at gr
          refine ⟨[some ⟨rule1 c b g, .fz⟩, some ⟨tx w, .fz⟩, some ⟨.lst acc, .own⟩, some ⟨.int (p : Nat), .fz⟩, some ⟨.str (sg c), .fz⟩], ?_, ?_⟩
          · simp [st, stepF, bindT, Dl.putAll, look, res, frz, resAll, giveBack, hG.io, gr, sem2, semEq, eqD, r1, r3, truthD, pre2]
          · rw [if_neg (by simp)]
            simp [st, wipeR]
      · refine ⟨[some ⟨rule1 a b g, .fz⟩, some ⟨tx w, .fz⟩, some ⟨.lst acc, .own⟩, some ⟨.int (p : Nat), .fz⟩, some ⟨.str (sg c), .fz⟩], ?_, ?_⟩
        · simp [st, stepF, bindT, Dl.putAll, look, res, frz, sem2, semEq, eqD, r1, pre2, sg_ne h1]
        · rw [if_neg fun z => h1 z.1]
          simp [st, wipeR])
  have eL : (enumD 0 ((w.map sg).map .str)).filterMap F = (oS1 w a b g).map .str := by
    have ge : ∀ (l : List Dat) (k : Nat), (enumD k l).filterMap F = ((List.range l.length).map (· + k)).filterMap fun p => (o1 w a b g p).map Dat.str := by
      intro l
      induction l with
      | nil => intro k; rfl
      | cons y l ih =>
        intro k
        rw [List.length_cons, List.range_succ_eq_map, List.map_cons, List.filterMap_cons, enumD, List.filterMap_cons, ih (k + 1), List.map_map]
        have e0 : F (.tup [.int (k : Nat), y]) = (o1 w a b g (0 + k)).map .str := by
          show (o1 w a b g ((k : Nat) : Int).toNat).map Dat.str = _
          rw [Int.toNat_natCast, Nat.zero_add]
        have e2 : (List.range l.length).map (· + (k + 1)) = (List.range l.length).map ((· + k) ∘ Nat.succ) := List.map_congr_left fun x _ => by show x + (k + 1) = x.succ + k; omega
        rw [e0, e2]
    rw [ge, List.length_map, List.length_map]
    unfold oS1
    rw [List.map_filterMap, List.filterMap_map]
    rfl
  rw [eL] at loop
  refine runD_own (j := 2) (r := st ((oS1 w a b g).map .str)) rfl ?_ rfl rfl
  refine (runB_next (r' := st []) ?_).trans ?_
  · simp [st, startR, d_one_turned, store]
  refine (runB_next (r' := st ((oS1 w a b g).map .str)) ?_).trans ?_
  · have src : runI W (.enm (.cons (.var 1) .nil)) (st []) = some (enumD 0 ((w.map sg).map .str), st []) := by
      simp only [runI_enm, runL_cons, runL_nil, run_var]
      rfl
    rw [runS_for, src]
    exact loop
  · simp [st, look]
/-- the pairs of neighbours -/
def lastN (ring : Bool) (n : Nat) : Nat := if ring = true ∧ 1 < n then n else n - 1
def prs (ring : Bool) (n : Nat) : List (Nat × Nat) := (List.range (lastN ring n)).map fun p => (p, (p + 1) % n)
def shp (ring : Bool) : Str := if ring then "ring" else "row"
def prD (pq : Nat × Nat) : Dat := .tup [.int (pq.1 : Nat), .int (pq.2 : Nat)]
theorem prs_lt {ring : Bool} {n : Nat} {pq : Nat × Nat} (h : pq ∈ prs ring n) : pq.1 < n ∧ pq.2 < n := by
  unfold prs at h
  obtain ⟨p, hp, rfl⟩ := List.mem_map.mp h
  rw [List.mem_range] at hp
  unfold lastN at hp
  have hn : p < n := by
    split at hp <;> omega
  exact ⟨hn, Nat.mod_lt _ (by omega)⟩
/-- what a rule of two makes of a word -/
def o2 (w : List Nat) (a b c d : Nat) (pq : Nat × Nat) : Option Str := if w[pq.1]? = some a ∧ w[pq.2]? = some b then some ⟨((w.set pq.1 c).set pq.2 d).toArray⟩ else none
theorem o2_eq {w : List Nat} {p q : Nat} (a b c d : Nat) (l1 : p < w.length) (l2 : q < w.length) : (o2 w a b c d (p, q)).map Dat.str = if w[p] = a ∧ w[q] = b then some (.str ⟨((w.set p c).set q d).toArray⟩) else none := by
  have e1 := List.getElem?_eq_getElem l1
  have e2 := List.getElem?_eq_getElem l2
  unfold o2
  by_cases h : w[p] = a ∧ w[q] = b
  · rw [if_pos h, if_pos ⟨by rw [e1, h.1], by rw [e2, h.2]⟩]
    rfl
  · rw [if_neg h, if_neg fun z => h ⟨by have := z.1; rw [e1] at this; exact Option.some.inj this, by have := z.2; rw [e2] at this; exact Option.some.inj this⟩]
    rfl
def oS2 (ring : Bool) (w : List Nat) (a b c d : Nat) : List Str := (prs ring w.length).filterMap (o2 w a b c d)
theorem prs_row (n : Nat) : prs false n = (List.range (n - 1)).map fun p => (p, p + 1) := by
  unfold prs lastN
  rw [if_neg (by simp)]
  refine List.map_congr_left fun p hp => ?_
  rw [List.mem_range] at hp
  rw [Nat.mod_eq_of_lt (by omega)]
theorem prs_ring {n : Nat} (h : 1 < n) : prs true n = ((List.range (n - 1)).map fun p => (p, p + 1)) ++ [(n - 1, 0)] := by
  unfold prs lastN
  rw [if_pos ⟨rfl, h⟩]
  have e : n = (n - 1) + 1 := by omega
  rw [e, List.range_succ, List.map_append, Nat.add_sub_cancel]
  congr 1
  · refine List.map_congr_left fun p hp => ?_
    rw [List.mem_range] at hp
    rw [Nat.mod_eq_of_lt (by omega)]
  · simp
theorem prs_ring1 {n : Nat} (h : ¬ 1 < n) : prs true n = [] := by
  unfold prs lastN
  rw [if_neg (by simp; omega)]
  have : n - 1 = 0 := by omega
  rw [this]
  rfl
theorem nb_run (W : Wd) (n : Nat) (ring : Bool) {w : List Nat} (hw : w.length ≤ 900) : runD W n d_neighbours_of [.str (shp ring), tx w] = some (.fresh (.lst ((prs ring w.length).map prD)), .non) := by
  have el : semLen (tx w) = some (.val (.int w.length)) := rfl
  let base : Rho := [some ⟨.str (shp ring), .fz⟩, some ⟨tx w, .fz⟩, none, none]
  have src : runI W (.rng1 (.op2 .sub (.op1 .len (.var 1)) (.int 1))) base = some (rangeD 0 (w.length - 1), base) := by
    have := small_line (n := w.length - 1) (by omega)
    have e : ((w.length : Int) - 1).toNat = w.length - 1 := by omega
    simp [runI_rng1, base, look, res, sem1, el, sem2, semSub, pre2, e]
    omega
  have cm : compD (turnC W [3] (.name 3) .no (.tup (.cons (.var 3) (.cons (.op2 .add (.var 3) (.int 1)) .nil)))) (rangeD 0 (w.length - 1)) base = some ((rangeD 0 (w.length - 1)).map (fun d => match d with | .int i => .tup [.int i, .int (i + 1)] | d => d), base) := by
    refine compD_map base _ _ fun d hd => ?_
    obtain ⟨k, hk, rfl⟩ := rangeD_mem hd
    simp [base, turnC, bindT, look, res, frz, sem2, semAdd, pre2, wipeR]
  have em : (rangeD 0 (w.length - 1)).map (fun d => match d with | .int i => Dat.tup [.int i, .int (i + 1)] | d => d) = ((List.range (w.length - 1)).map fun p => (p, p + 1)).map prD := by
    unfold rangeD
    rw [List.map_map, List.map_map]
    refine List.map_congr_left fun p hp => ?_
    simp [prD]
  rw [em] at cm
  have s1 : runS W n (.set 2 (.comp [3] (.name 3) (.rng1 (.op2 .sub (.op1 .len (.var 1)) (.int 1))) .no (.tup (.cons (.var 3) (.cons (.op2 .add (.var 3) (.int 1)) .nil))))) (startR d_neighbours_of [.str (shp ring), tx w]) = some (.next (base.set 2 (some ⟨.lst (((List.range (w.length - 1)).map fun p => (p, p + 1)).map prD), .own⟩))) := by
    rw [runS_set, run_comp]
    show Option.bind (Option.bind (runI W _ base) _) _ = _
    rw [src]
    show Option.bind (Option.bind (compD _ _ base) _) _ = _
    rw [cm]
    simp [base, back, look, store]
  refine runD_own (j := 2) (r := base.set 2 (some ⟨.lst ((prs ring w.length).map prD), .own⟩)) rfl ?_ rfl rfl
  refine (runB_next s1).trans ?_
  refine (runB_next (r' := base.set 2 (some ⟨.lst ((prs ring w.length).map prD), .own⟩)) ?_).trans ?_
  · cases ring with
    | false =>
      have en : ¬ (shp false) = ("ring" : Str) := by decide
      rw [prs_row]
      simp [base, look, res, sem2, semEq, eqD, en]
    | true =>
      have ey : (shp true) = ("ring" : Str) := rfl
      by_cases h1 : 1 < w.length
      · have h1' : (1 : Int) < w.length := by omega
        have hsz : w.length - 1 < sizeLine := Nat.lt_of_le_of_lt (Nat.sub_le _ _) (small1000 (by omega))
        have e : ((w.length - 1 : Nat) : Int) = (w.length : Int) - 1 := by omega
        rw [prs_ring h1]
        simp [base, look, res, frz, sem1, el, sem2, semEq, eqD, semGt, semLt, semSub, ey, h1', run_app, isLst, hsz, prD, e, pre2]
      · have h1' : ¬ (1 : Int) < w.length := by omega
        have e0 : w.length - 1 = 0 := by omega
        rw [prs_ring1 h1, e0]
        simp [base, look, res, sem1, el, sem2, semEq, eqD, semGt, semLt, ey, h1']
  · simp [base, look]
structure HasNb (W : Wd) : Prop where
  io : W.io "neighbours_of" = some none
  run : ∀ (ring : Bool) (w : List Nat), w.length ≤ 900 → W.phi "neighbours_of" [.str (shp ring), tx w] = some (.fresh (.lst ((prs ring w.length).map prD)), .non)
def rule2 (a b c d : Nat) : Dat := .tup [.str "two", .str (sg a), .str (sg b), .str (sg c), .str (sg d)]
theorem at_txE {w : List Nat} {p : Nat} (h : p < w.length) : semAt (tx w) (.int (p : Nat)) = some (.val (.str (sg w[p]))) := by
  show (atI w _).map _ = _
  rw [atI_nat (List.getElem?_eq_getElem h)]
  rfl
theorem list_tx (w : List Nat) : semList (tx w) = some (.fresh (.lst ((w.map sg).map .str))) := rfl
theorem set_sg (w : List Nat) (p c : Nat) : ((w.map sg).map Dat.str).set p (.str (sg c)) = ((w.set p c).map sg).map .str := by
  rw [List.map_set, List.map_set]
theorem prs_len (ring : Bool) (n : Nat) : (prs ring n).length ≤ n := by
  unfold prs lastN
  rw [List.length_map, List.length_range]
  split <;> omega
theorem sg_eq (a b : Nat) : decide (sg a = sg b) = decide (a = b) := by
  by_cases h : a = b
  · simp [h]
  · have : ¬ sg a = sg b := fun z => h (sg_inj z)
    simp [h, this]
theorem two_run (W : Wd) (n : Nat) (hN : HasNb W) (ring : Bool) {w : List Nat} (hw : w.length ≤ 900) (a b c d : Nat) : runD W n d_two_turned [.str (shp ring), rule2 a b c d, tx w] = some (.fresh (.lst ((oS2 ring w a b c d).map .str)), .non) := by
  let st : List Dat → Rho := fun acc => [none, some ⟨rule2 a b c d, .fz⟩, some ⟨tx w, .fz⟩, some ⟨.lst acc, .own⟩, none, none, none]
  have r1 : semAt (rule2 a b c d) (.int 1) = some (.val (.str (sg a))) := rfl
  have r2 : semAt (rule2 a b c d) (.int 2) = some (.val (.str (sg b))) := rfl
  have r3 : semAt (rule2 a b c d) (.int 3) = some (.val (.str (sg c))) := rfl
  have r4 : semAt (rule2 a b c d) (.int 4) = some (.val (.str (sg d))) := rfl
  let F : Dat → Option Dat := fun x => match x with
    | .tup [.int p, .int q] => (o2 w a b c d (p.toNat, q.toNat)).map .str
    | _ => none
  have loop := forD_app (f := stepF W n (.tup [4, 5]) (.cons (.ife (.and (.cmp .eq (.op2 .at (.var 2) (.var 4)) (.op2 .at (.var 1) (.int 1))) (.cmp .eq (.op2 .at (.var 2) (.var 5)) (.op2 .at (.var 1) (.int 2)))) (.cons (.set 6 (.op1 .list (.var 2)))
    (.cons (.setAt 6 (.var 4) (.op2 .at (.var 1) (.int 3)))
    (.cons (.setAt 6 (.var 5) (.op2 .at (.var 1) (.int 4)))
    (.cons (.expr (.app 3 (.op2 .join (.str "") (.var 6))))
    .nil)))) .nil)
    .nil)) (wp := [0, 4, 5, 6]) st F ((prs ring w.length).map prD) (by
    intro i x acc hx ha
    rw [List.getElem?_map] at hx
    cases hp : (prs ring w.length)[i]? with
    | none => rw [hp] at hx; cases hx
    | some pq =>
      rw [hp] at hx
      cases hx
      obtain ⟨l1, l2⟩ := prs_lt (List.mem_of_getElem? hp)
      obtain ⟨p, q⟩ := pq
      have a1 := at_txE l1
      have a2 := at_txE l2
      have i1 : ixN w.length (p : Nat) = some p := by rw [ixN_of (by omega) (by omega)]; rfl
      have i2 : ixN w.length (q : Nat) = some q := by rw [ixN_of (by omega) (by omega)]; rfl
      have hi : i < w.length := by
        have := (List.getElem?_eq_some_iff.mp hp).1
        have := prs_len ring w.length
        omega
      have hsz : acc.length < sizeLine := Nat.lt_of_le_of_lt ha (small1000 (by omega))
      have eF : F (prD (p, q)) = if w[p] = a ∧ w[q] = b then some (.str ⟨((w.set p c).set q d).toArray⟩) else none := by
        show (o2 w a b c d (((p : Nat) : Int).toNat, ((q : Nat) : Int).toNat)).map Dat.str = _
        rw [Int.toNat_natCast, Int.toNat_natCast]
        exact o2_eq a b c d l1 l2
      by_cases h1 : w[p] = a
      · by_cases h2 : w[q] = b
        · have j := semJoin_signs ((w.set p c).set q d) (by rw [List.length_set, List.length_set]; omega)
          refine ⟨[none, some ⟨rule2 a b c d, .fz⟩, some ⟨tx w, .fz⟩, some ⟨.lst (acc ++ [.str ⟨((w.set p c).set q d).toArray⟩]), .own⟩, some ⟨.int (p : Nat), .fz⟩, some ⟨.int (q : Nat), .fz⟩, some ⟨.lst ((((w.set p c).set q d).map sg).map .str), .own⟩], ?_, ?_⟩
          · rw [h1] at a1
            rw [h2] at a2
            simp only [List.map_map, List.map_set, Function.comp_apply] at j
            simp [st, stepF, bindT, Dl.putAll, prD, look, res, frz, sem1, sem2, semEq, eqD, a1, a2, r1, r2, r3, r4, list_tx, store, runS_setAt, i1, i2, run_app, isLst, isStr, pre2, hsz, j, List.map_set]
          · rw [eF, if_pos ⟨h1, h2⟩]
            simp [st, wipeR]
        · refine ⟨[none, some ⟨rule2 a b c d, .fz⟩, some ⟨tx w, .fz⟩, some ⟨.lst acc, .own⟩, some ⟨.int (p : Nat), .fz⟩, some ⟨.int (q : Nat), .fz⟩, none], ?_, ?_⟩
          · have n2 : ¬ sg w[q] = sg b := fun z => h2 (sg_inj z)
            simp [st, stepF, bindT, Dl.putAll, prD, look, res, frz, sem1, sem2, semEq, eqD, a1, a2, r1, r2, pre2, h1, n2]
          · rw [eF, if_neg fun z => h2 z.2]
            simp [st, wipeR]
      · refine ⟨[none, some ⟨rule2 a b c d, .fz⟩, some ⟨tx w, .fz⟩, some ⟨.lst acc, .own⟩, some ⟨.int (p : Nat), .fz⟩, some ⟨.int (q : Nat), .fz⟩, none], ?_, ?_⟩
        · have n1 : ¬ sg w[p] = sg a := fun z => h1 (sg_inj z)
          simp [st, stepF, bindT, Dl.putAll, prD, look, res, frz, sem1, sem2, semEq, eqD, a1, r1, pre2, n1]
        · rw [eF, if_neg fun z => h1 z.1]
          simp [st, wipeR])
  have eL : ((prs ring w.length).map prD).filterMap F = (oS2 ring w a b c d).map .str := by
    unfold oS2
    rw [List.filterMap_map, List.map_filterMap]
    rfl
  rw [eL] at loop
  refine runD_own (j := 3) (r := st ((oS2 ring w a b c d).map .str)) rfl ?_ rfl rfl
  refine (runB_next (r' := [some ⟨.str (shp ring), .fz⟩, some ⟨rule2 a b c d, .fz⟩, some ⟨tx w, .fz⟩, some ⟨.lst [], .own⟩, none, none, none]) ?_).trans ?_
  · simp [startR, d_two_turned, store]
  refine (runB_next (r' := st ((oS2 ring w a b c d).map .str)) ?_).trans ?_
  · rw [runS_for]
    have src : runI W (.seq (.call "neighbours_of" (.cons (.var 0) (.cons (.var 2) .nil)))) [some ⟨.str (shp ring), .fz⟩, some ⟨rule2 a b c d, .fz⟩, some ⟨tx w, .fz⟩, some ⟨.lst [], .own⟩, none, none, none] = some ((prs ring w.length).map prD, [some ⟨.str (shp ring), .fz⟩, some ⟨rule2 a b c d, .fz⟩, some ⟨tx w, .fz⟩, some ⟨.lst [], .own⟩, none, none, none]) := by
      simp [look, res, frz, resAll, giveBack, hN.io, hN.run ring w hw, items]
    rw [src]
    exact loop
  · simp [st, look]

/-! ### calls -/
def callR (a b : Nat) (im : List Nat) : Dat := .tup [.str "call", .str (sg a), .str (sg b), tx im]
/-- the image of a letter -/
def imF (cs im : List Nat) (c : Nat) : Nat := im.getD (cs.idxOf c) 0
def o3 (cs im w : List Nat) (a b : Nat) (p : Nat) : Option Str := if w.getD p 0 = a then some ⟨((w.map (imF cs im)).set p b).toArray⟩ else none
def oS3 (cs im w : List Nat) (a b : Nat) : List Str := (List.range w.length).filterMap (o3 cs im w a b)
theorem index_tx {cs : List Nat} (nd : cs.Nodup) {c : Nat} (h : c ∈ cs) : semIndex (tx cs) (.str (sg c)) = some (.val (.int (cs.idxOf c : Nat))) := by
  have h1 := StrLaws.found_one ⟨cs.toArray⟩ c
  rw [decide_eq_true (show c ∈ (⟨cs.toArray⟩ : Str).cps.toList from h)] at h1
  show (Txt.index0 ⟨cs.toArray⟩ (sg c)).map _ = _
  unfold Txt.index0
  cases ho : Builtin.Str.occurrences ⟨cs.toArray⟩ (sg c) 0 (⟨cs.toArray⟩ : Str).length 1 with
  | nil =>
    rw [show (⟨#[c]⟩ : Str) = sg c from rfl, ho] at h1
    cases h1
  | cons k rest =>
    have h2 := StrLaws.occ_spec ⟨cs.toArray⟩ (sg c) 0 (⟨cs.toArray⟩ : Str).length 1 k (by rw [ho]; exact List.mem_cons_self)
    have h3 := (StrLaws.subAt_one ⟨cs.toArray⟩ c k).mp h2
    have h4 : cs[k]? = some c := by simpa using h3
    have hk := (List.getElem?_eq_some_iff.mp h4)
    obtain ⟨hk1, hk2⟩ := hk
    have hi : cs.idxOf c < cs.length := List.idxOf_lt_length_iff.mpr h
    have e : cs.idxOf c = k := by
      have e1 : cs[cs.idxOf c] = c := List.getElem_idxOf hi
      exact (List.getElem?_inj hi nd).mp (by rw [h4, List.getElem?_eq_getElem hi, e1])
    rw [e]
    rfl
theorem at_im {cs im : List Nat} (hl : im.length = cs.length) {c : Nat} (h : c ∈ cs) : semAt (tx im) (.int (cs.idxOf c : Nat)) = some (.val (.str (sg (imF cs im c)))) := at_tx (by rw [hl]; exact List.idxOf_lt_length_iff.mpr h)
theorem called_run (W : Wd) (n : Nat) {cs im w : List Nat} (nd : cs.Nodup) (hl : im.length = cs.length) (hw : w.length ≤ 900) (hx : ∀ x ∈ w, x ∈ cs) (a b : Nat) : runD W n d_called [tx cs, callR a b im, tx w] = some (.fresh (.lst ((oS3 cs im w a b).map .str)), .non) := by
  let v := w.map (imF cs im)
  have hv : v.length = w.length := List.length_map _
  let st : List Dat → Rho := fun acc => [none, some ⟨callR a b im, .fz⟩, none, some ⟨tx v, .fz⟩, some ⟨.lst acc, .own⟩, none, none]
  have r1 : semAt (callR a b im) (.int 1) = some (.val (.str (sg a))) := rfl
  have r2 : semAt (callR a b im) (.int 2) = some (.val (tx [b])) := rfl
  have r3 : semAt (callR a b im) (.int 3) = some (.val (tx im)) := rfl
  let F : Dat → Option Dat := fun x => match x with
    | .tup [.int p, _] => (o3 cs im w a b p.toNat).map .str
    | _ => none
  have loop := forD_app (f := stepF W n (.tup [5, 6]) (.cons (.ife (.cmp .eq (.var 6) (.op2 .at (.var 1) (.int 1))) (.cons (.expr (.app 4 (.op2 .add (.op2 .add (.cut (.var 3) .no (.yes (.var 5))) (.op2 .at (.var 1) (.int 2))) (.cut (.var 3) (.yes (.op2 .add (.var 5) (.int 1))) .no))))
    .nil) .nil)
    .nil)) (wp := [0, 2, 5, 6]) st F (enumD 0 ((w.map sg).map .str)) (by
    intro p x acc hx ha
    obtain ⟨y, ey, rfl⟩ := enumD_get _ _ _ _ hx
    rw [Nat.zero_add]
    rw [List.getElem?_map, List.getElem?_map] at ey
    cases hq : w[p]? with
    | none => rw [hq] at ey; cases ey
    | some c =>
      rw [hq] at ey
      cases ey
      have hp : p < w.length := (List.getElem?_eq_some_iff.mp hq).1
      have hpv : p < v.length := by omega
      have hc : w.getD p 0 = c := by rw [List.getD_eq_getElem?_getD, hq]; rfl
      have hsz : acc.length < sizeLine := Nat.lt_of_le_of_lt ha (small1000 (by omega))
      have c1 := cut_to (w := v) (p := p) (by omega)
      have c2 := cut_from (w := v) (p := p + 1) (by omega)
      have e1 : ((p + 1 : Nat) : Int) = (p : Int) + 1 := by omega
      rw [e1] at c2
      have ad : semAdd (.int (p : Nat)) (.int 1) = some (.val (.int ((p : Int) + 1))) := rfl
      have ad1 := add_tx (a := v.take p) (b := [b]) (by rw [List.length_take]; show _ + 1 ≤ _; omega)
      have ad2 := add_tx (a := v.take p ++ [b]) (b := v.drop (p + 1)) (by rw [List.length_append, List.length_take, List.length_drop]; show _ + 1 + _ ≤ _; omega)
      rw [set_cut hpv] at ad2
      have eF : F (.tup [.int (p : Nat), .str (sg c)]) = (o3 cs im w a b p).map .str := by
        show (o3 cs im w a b ((p : Nat) : Int).toNat).map Dat.str = _
        rw [Int.toNat_natCast]
      rw [eF]
      unfold o3
      rw [hc]
      by_cases h1 : c = a
      · subst h1
        refine ⟨[none, some ⟨callR c b im, .fz⟩, none, some ⟨tx v, .fz⟩, some ⟨.lst (acc ++ [tx (v.set p b)]), .own⟩, some ⟨.int (p : Nat), .fz⟩, some ⟨.str (sg c), .fz⟩], ?_, ?_⟩
        · simp [st, stepF, bindT, Dl.putAll, look, res, frz, resAll, giveBack, sem2, semEq, eqD, r1, r2, truthD, c1, c2, ad, ad1, ad2, pre2, run_app, isLst, hsz]
        · rw [if_pos rfl]
          simp [st, wipeR, tx, v]
      · refine ⟨[none, some ⟨callR a b im, .fz⟩, none, some ⟨tx v, .fz⟩, some ⟨.lst acc, .own⟩, some ⟨.int (p : Nat), .fz⟩, some ⟨.str (sg c), .fz⟩], ?_, ?_⟩
        · simp [st, stepF, bindT, Dl.putAll, look, res, frz, sem2, semEq, eqD, r1, pre2, sg_ne h1]
        · rw [if_neg h1]
          simp [st, wipeR])
  have eL : (enumD 0 ((w.map sg).map .str)).filterMap F = (oS3 cs im w a b).map .str := by
    have ge : ∀ (l : List Dat) (k : Nat), (enumD k l).filterMap F = ((List.range l.length).map (· + k)).filterMap fun p => (o3 cs im w a b p).map Dat.str := by
      intro l
      induction l with
      | nil => intro k; rfl
      | cons y l ih =>
        intro k
        rw [List.length_cons, List.range_succ_eq_map, List.map_cons, List.filterMap_cons, enumD, List.filterMap_cons, ih (k + 1), List.map_map]
        have e0 : F (.tup [.int (k : Nat), y]) = (o3 cs im w a b (0 + k)).map .str := by
          show (o3 cs im w a b ((k : Nat) : Int).toNat).map Dat.str = _
          rw [Int.toNat_natCast, Nat.zero_add]
        have e2 : (List.range l.length).map (· + (k + 1)) = (List.range l.length).map ((· + k) ∘ Nat.succ) := List.map_congr_left fun x _ => by show x + (k + 1) = x.succ + k; omega
        rw [e0, e2]
    rw [ge, List.length_map, List.length_map]
    unfold oS3
    rw [List.map_filterMap, List.filterMap_map]
    rfl
  rw [eL] at loop
  let s0 : Rho := [some ⟨tx cs, .fz⟩, some ⟨callR a b im, .fz⟩, some ⟨tx w, .fz⟩, none, none, none, none]
  have e3 : Dl.run W (.comp [6] (.name 6) (.seq (.var 2)) .no (.op2 .at (.op2 .at (.var 1) (.int 3)) (.op2 .index (.var 0) (.var 6)))) s0 = some (.fresh (.lst ((v.map sg).map .str)), s0) := by
    have src : runI W (.seq (.var 2)) s0 = some ((w.map sg).map .str, s0) := by
      simp only [runI_seq, run_var]
      rfl
    have cm : compD (turnC W [6] (.name 6) .no (.op2 .at (.op2 .at (.var 1) (.int 3)) (.op2 .index (.var 0) (.var 6)))) ((w.map sg).map .str) s0 = some (((w.map sg).map Dat.str).map (fun d => match d with | .str x => .str (sg (imF cs im (x.cps.toList.headD 0))) | d => d), s0) := by
      refine compD_map _ _ _ fun d hd => ?_
      obtain ⟨s, hs, rfl⟩ := List.mem_map.mp hd
      obtain ⟨c, hc, rfl⟩ := List.mem_map.mp hs
      have i1 := index_tx nd (hx c hc)
      have i2 := at_im hl (hx c hc)
      have i3 : isStr (tx cs) = true := rfl
      simp [s0, turnC, bindT, look, res, frz, sem2, pre2, r3, i1, i2, i3, wipeR]
      rfl
    have em : ((w.map sg).map Dat.str).map (fun d => match d with | .str x => Dat.str (sg (imF cs im (x.cps.toList.headD 0))) | d => d) = (v.map sg).map .str := by
      rw [List.map_map, List.map_map, List.map_map, List.map_map]
      rfl
    rw [em] at cm
    rw [run_comp, src]
    show Option.bind (compD _ _ s0) _ = _
    rw [cm]
    simp [s0, back, look]
  have j := semJoin_signs v (by omega)
  refine runD_own (j := 4) (r := st ((oS3 cs im w a b).map .str)) rfl ?_ rfl rfl
  refine (runB_next (r' := s0.set 3 (some ⟨tx v, .fz⟩)) ?_).trans ?_
  · show runS W n _ s0 = _
    rw [runS_set, run_op2, run_str]
    simp [res, pre2, isStr, e3, sem2] at j ⊢
    simp [j, tx, store]
  refine (runB_next (r' := (s0.set 3 (some ⟨tx v, .fz⟩)).set 4 (some ⟨.lst [], .own⟩)) ?_).trans ?_
  · simp [s0, store]
  refine (runB_next (r' := st ((oS3 cs im w a b).map .str)) ?_).trans ?_
  · have src : runI W (.enm (.cons (.var 2) .nil)) ((s0.set 3 (some ⟨tx v, .fz⟩)).set 4 (some ⟨.lst [], .own⟩)) = some (enumD 0 ((w.map sg).map .str), (s0.set 3 (some ⟨tx v, .fz⟩)).set 4 (some ⟨.lst [], .own⟩)) := by
      simp only [runI_enm, runL_cons, runL_nil, run_var]
      rfl
    rw [runS_for, src]
    exact loop
  · simp [st, look]
/-! ### any rule -/
inductive Rl where
  | one (a b : Nat) (g : Gd) | two (a b c d : Nat) | call (a b : Nat) (im : List Nat)
def Rl.d : Rl → Dat
  | .one a b g => rule1 a b g
  | .two a b c d => rule2 a b c d
  | .call a b im => callR a b im
def outR (ring : Bool) (cs w : List Nat) : Rl → List Str
  | .one a b g => oS1 w a b g
  | .two a b c d => oS2 ring w a b c d
  | .call a b im => oS3 cs im w a b
def finR (ring : Bool) (cs w : List Nat) (rl : Rl) : List Str := sortS (dd (outR ring cs w rl))
theorem outR_len (ring : Bool) (cs w : List Nat) (rl : Rl) : (outR ring cs w rl).length ≤ w.length := by
  cases rl with
  | one a b g => exact Nat.le_trans (List.length_filterMap_le _ _) (by rw [List.length_range]; exact Nat.le_refl _)
  | two a b c d => exact Nat.le_trans (List.length_filterMap_le _ _) (prs_len ring _)
  | call a b im => exact Nat.le_trans (List.length_filterMap_le _ _) (by rw [List.length_range]; exact Nat.le_refl _)
theorem finR_len (ring : Bool) (cs w : List Nat) (rl : Rl) : (finR ring cs w rl).length ≤ w.length := by
  unfold finR
  rw [(sortS_perm _).length_eq]
  exact Nat.le_trans (dd_len _) (outR_len ring cs w rl)
theorem sset_len {xs : List Str} (h : xs.length ≤ 1000) : semSset (.lst (xs.map .str)) = some (.fresh (.lst ((sortS (dd xs)).map .str))) := by
  unfold semSset
  dsimp only
  rw [strsOf_map]
  dsimp only
  rw [if_pos (show xs.length + 1 < scanBound by show _ < 4096; omega)]
/-- what a rule's parts must be, for calls -/
def Rl.ok (cs w : List Nat) : Rl → Prop
  | .call _ _ im => cs.Nodup ∧ im.length = cs.length ∧ ∀ x ∈ w, x ∈ cs
  | _ => True
structure HasOneT (W : Wd) : Prop where
  io : W.io "one_turned" = some none
  run : ∀ (w : List Nat) (a b : Nat) (g : Gd), w.length ≤ 900 → W.phi "one_turned" [rule1 a b g, tx w] = some (.fresh (.lst ((oS1 w a b g).map .str)), .non)
structure HasTwoT (W : Wd) : Prop where
  io : W.io "two_turned" = some none
  run : ∀ (ring : Bool) (w : List Nat) (a b c d : Nat), w.length ≤ 900 → W.phi "two_turned" [.str (shp ring), rule2 a b c d, tx w] = some (.fresh (.lst ((oS2 ring w a b c d).map .str)), .non)
structure HasCalled (W : Wd) : Prop where
  io : W.io "called" = some none
  run : ∀ (cs im w : List Nat) (a b : Nat), cs.Nodup → im.length = cs.length → w.length ≤ 900 → (∀ x ∈ w, x ∈ cs) → W.phi "called" [tx cs, callR a b im, tx w] = some (.fresh (.lst ((oS3 cs im w a b).map .str)), .non)
theorem after_run (W : Wd) (n : Nat) (h1 : HasOneT W) (h2 : HasTwoT W) (h3 : HasCalled W) (ring : Bool) {cs w : List Nat} (hw : w.length ≤ 900) (rl : Rl) (ok : rl.ok cs w) : runD W n d_after [tx cs, .str (shp ring), rl.d, tx w] = some (.fresh (.lst ((finR ring cs w rl).map .str)), .non) := by
  have e := sset_len (xs := outR ring cs w rl) (Nat.le_trans (outR_len ring cs w rl) (by omega))
  have fin : ∀ (W : Wd) (r : Rho), look r 4 = some ⟨.lst ((outR ring cs w rl).map .str), .own⟩ → runB W n (.cons (.ret (.op1 .sset (.var 4))) .nil) r = some (.ret (.fresh (.lst ((finR ring cs w rl).map .str))) r) := by
    intro W r hr
    refine runB_ret ?_
    simp [hr, res, sem1, e]
    rfl
  have n1 : ¬ ("two" : Str) = ("one" : Str) := by decide
  have n2 : ¬ ("call" : Str) = ("one" : Str) := by decide
  have n3 : ¬ ("call" : Str) = ("two" : Str) := by decide
  cases rl with
  | one a b g =>
    have r0 : semAt (rule1 a b g) (.int 0) = some (.val (.str "one")) := rfl
    refine runD_fresh (r := [some ⟨tx cs, .fz⟩, some ⟨.str (shp ring), .fz⟩, some ⟨rule1 a b g, .fz⟩, some ⟨tx w, .fz⟩, some ⟨.lst ((oS1 w a b g).map .str), .own⟩]) rfl ?_ rfl
    refine (runB_next (r' := [some ⟨tx cs, .fz⟩, some ⟨.str (shp ring), .fz⟩, some ⟨rule1 a b g, .fz⟩, some ⟨tx w, .fz⟩, some ⟨.lst ((oS1 w a b g).map .str), .own⟩]) ?_).trans (fin W _ rfl)
    simp [startR, d_after, Rl.d, look, res, frz, resAll, giveBack, h1.io, h1.run w a b g hw, sem2, semEq, eqD, r0, store, pre2]
  | two a b c d =>
    have r0 : semAt (rule2 a b c d) (.int 0) = some (.val (.str "two")) := rfl
    refine runD_fresh (r := [some ⟨tx cs, .fz⟩, some ⟨.str (shp ring), .fz⟩, some ⟨rule2 a b c d, .fz⟩, some ⟨tx w, .fz⟩, some ⟨.lst ((oS2 ring w a b c d).map .str), .own⟩]) rfl ?_ rfl
    refine (runB_next (r' := [some ⟨tx cs, .fz⟩, some ⟨.str (shp ring), .fz⟩, some ⟨rule2 a b c d, .fz⟩, some ⟨tx w, .fz⟩, some ⟨.lst ((oS2 ring w a b c d).map .str), .own⟩]) ?_).trans (fin W _ rfl)
    simp [startR, d_after, Rl.d, look, res, frz, resAll, giveBack, h2.io, h2.run ring w a b c d hw, sem2, semEq, eqD, r0, n1, store, pre2]
  | call a b im =>
    have r0 : semAt (callR a b im) (.int 0) = some (.val (.str "call")) := rfl
    refine runD_fresh (r := [some ⟨tx cs, .fz⟩, some ⟨.str (shp ring), .fz⟩, some ⟨callR a b im, .fz⟩, some ⟨tx w, .fz⟩, some ⟨.lst ((oS3 cs im w a b).map .str), .own⟩]) rfl ?_ rfl
    refine (runB_next (r' := [some ⟨tx cs, .fz⟩, some ⟨.str (shp ring), .fz⟩, some ⟨callR a b im, .fz⟩, some ⟨tx w, .fz⟩, some ⟨.lst ((oS3 cs im w a b).map .str), .own⟩]) ?_).trans (fin W _ rfl)
    simp [startR, d_after, Rl.d, look, res, frz, resAll, giveBack, h3.io, h3.run cs im w a b ok.1 ok.2.1 hw ok.2.2, sem2, semEq, eqD, r0, n2, n3, store, pre2]
structure HasAfter (W : Wd) : Prop where
  io : W.io "after" = some none
  run : ∀ (ring : Bool) (cs w : List Nat) (rl : Rl), w.length ≤ 900 → rl.ok cs w → W.phi "after" [tx cs, .str (shp ring), rl.d, tx w] = some (.fresh (.lst ((finR ring cs w rl).map .str)), .non)
end Ds

/-! W3: the draws of the laws k72 to k85: _law_draws, _law_take, _law_letters, _law_machine. -/
namespace Dq
open PySem PySem.Spec PyProof.Rows L2 Dl Dw Ds
def d_law_draws : Df := { N := ["script", "draws", "k", "rest", "stir", "many"], ps := 1, io := none, body :=
    (.cons (.set 1 (.lst .nil))
    (.cons (.for_ (.name 2) (.rng1 (.op2 .min2 (.op1 .len (.var 0)) (.int 80))) (.cons (.set 3 (.op1 .abs (.op2 .at (.var 0) (.var 2))))
    (.cons (.ife (.cmp .lt (.var 3) (.op2 .pow (.int 10) (.int 18))) (.cons (.set 4 (.op2 .mod (.op2 .mul (.op2 .mod (.op2 .add (.op2 .add (.var 3) (.op2 .mul (.int 7919) (.var 2))) (.int 3)) (.int 2147483647)) (.int 48271)) (.int 2147483647)))
    (.cons (.set 4 (.op2 .mod (.op2 .mul (.var 4) (.var 4)) (.int 2147483629)))
    (.cons (.expr (.app 1 (.op2 .mod (.op2 .div (.var 4) (.int 16)) (.int 1000))))
    (.cons (.expr (.app 1 (.op2 .mod (.op2 .div (.var 4) (.int 16000)) (.int 1000))))
    (.cons (.set 4 (.op2 .mod (.op2 .add (.var 4) (.op2 .mul (.int 40692) (.op2 .add (.var 2) (.int 7)))) (.int 2147483587)))
    (.cons (.expr (.app 1 (.op2 .mod (.op2 .div (.op2 .mod (.op2 .mul (.var 4) (.var 4)) (.int 2147483647)) (.int 16)) (.int 1000))))
    .nil)))))) (.cons (.set 5 (.int 0))
    (.cons (.whl (.and (.cmp .ge (.var 3) (.int 1000)) (.cmp .lt (.var 5) (.int 60))) (.cons (.expr (.app 1 (.op2 .mod (.var 3) (.int 1000))))
    (.cons (.set 3 (.op2 .div (.var 3) (.int 1000)))
    (.cons (.set 5 (.op2 .add (.var 5) (.int 1)))
    .nil))) [2, 4])
    .nil)))
    .nil)) [2, 3, 4, 5])
    (.cons (.ret (.cut (.var 1) .no (.yes (.int 240))))
    .nil))) }
def d_law_take : Df := { N := ["draws", "many"], ps := 2, io := some 0, body :=
    (.cons (.ife (.cmp .eq (.var 0) (.lst .nil)) (.cons (.ret (.int 0))
    .nil) .nil)
    (.cons (.ret (.op2 .mod (.pop 0 (.int 0)) (.var 1)))
    .nil)) }
def d_law_letters : Df := { N := ["draws", "most", "some", "many", "found", "k"], ps := 2, io := some 0, body :=
    (.cons (.set 2 (.op1 .list (.step (.str "abcdefghijklmnopqrstuvwxyz") .no (.op2 .at (.lst (.cons (.int 1) (.cons (.int 5) .nil))) (.call "_law_take" (.cons (.var 0) (.cons (.int 2) .nil)))))))
    (.cons (.set 3 (.op2 .add (.int 1) (.call "_law_take" (.cons (.var 0) (.cons (.var 1) .nil)))))
    (.cons (.set 4 (.lst .nil))
    (.cons (.for_ (.name 5) (.rng1 (.var 3)) (.cons (.expr (.app 4 (.pop 2 (.op2 .at (.lst (.cons (.int 0) (.cons (.call "_law_take" (.cons (.var 0) (.cons (.op1 .len (.var 2)) .nil))) .nil))) (.call "_law_take" (.cons (.var 0) (.cons (.int 2) .nil)))))))
    .nil) [1, 3, 5])
    (.cons (.ret (.op2 .join (.str "") (.op1 .sorted (.var 4))))
    .nil))))) }
def d_law_machine : Df := { N := ["draws", "letters", "most", "many", "table", "k", "ends", "row", "letter"], ps := 3, io := some 0, body :=
    (.cons (.set 3 (.op2 .add (.int 1) (.call "_law_take" (.cons (.var 0) (.cons (.var 2) .nil)))))
    (.cons (.set 4 (.lst .nil))
    (.cons (.for_ (.name 5) (.rng1 (.var 3)) (.cons (.set 7 (.comp [8] (.name 8) (.seq (.var 1)) .no (.op2 .at (.lst (.cons (.call "_law_take" (.cons (.var 0) (.cons (.var 3) .nil))) (.cons (.op2 .min2 (.op2 .sub (.var 3) (.int 1)) (.op2 .add (.var 5) (.int 1))) .nil))) (.call "_law_take" (.cons (.var 0) (.cons (.int 2) .nil))))))
    (.cons (.expr (.app 4 (.op1 .tuple (.var 7))))
    .nil)) [2, 5, 6, 7, 8])
    (.cons (.set 6 (.op1 .tuple (.comp [5] (.name 5) (.rng1 (.var 3)) (.yes (.cmp .eq (.call "_law_take" (.cons (.var 0) (.cons (.int 3) .nil))) (.int 0))) (.var 5))))
    (.cons (.ret (.tup (.cons (.var 1) (.cons (.op1 .tuple (.var 4)) (.cons (.var 6) .nil)))))
    .nil))))) }

/-! ### == of lists of numbers -/
theorem canAll_ints : ∀ l : List Int, PyData.canLayAll0 (toPys (l.map .int)) = true
  | [] => rfl
  | x :: xs => by
    show (true && PyData.canLayAll0 (toPys (xs.map .int))) = true
    rw [canAll_ints xs]
    rfl
theorem depth_ints : ∀ (xs : List Int), PyData.depthAll (toPys (xs.map .int)) = 0
  | [] => rfl
  | x :: xs => by
    show max 0 (PyData.depthAll (toPys (xs.map .int))) = 0
    rw [depth_ints xs]
    rfl
theorem shaped_ints (xs : List Int) : SeqAt.shaped (toPy (.lst (xs.map .int))) = true := by
  unfold SeqAt.shaped
  rw [Bool.and_eq_true]
  refine ⟨canAll_ints xs, decide_eq_true ?_⟩
  show PyData.depthAll (toPys (xs.map .int)) + 1 ≤ 64
  rw [depth_ints]
  decide
theorem eqvAll_ints : ∀ (xs ys : List Int), PyData.eqvAll (toPys (xs.map .int)) (toPys (ys.map .int)) = decide (xs = ys)
  | [], [] => rfl
  | [], y :: ys => by simp [toPys, PyData.eqvAll]
  | x :: xs, [] => by simp [toPys, PyData.eqvAll]
  | x :: xs, y :: ys => by
    show (PyData.eqv (.int x) (.int y) && PyData.eqvAll (toPys (xs.map .int)) (toPys (ys.map .int))) = _
    rw [eqvAll_ints xs ys]
    show ((x == y) && _) = _
    by_cases h1 : x = y
    · by_cases h2 : xs = ys
      · simp [h1, h2]
      · simp [h1, h2]
    · simp [h1]
theorem eqD_ints (xs ys : List Int) : eqD (.lst (xs.map .int)) (.lst (ys.map .int)) = some (decide (xs = ys)) := by
  have e : eqD (.lst (xs.map .int)) (.lst (ys.map .int)) = if SeqAt.shaped (toPy (.lst (xs.map .int))) = true ∧ SeqAt.shaped (toPy (.lst (ys.map .int))) = true then some (PyData.eqv (toPy (.lst (xs.map .int))) (toPy (.lst (ys.map .int)))) else none := rfl
  rw [e, if_pos ⟨shaped_ints xs, shaped_ints ys⟩]
  exact congrArg some (eqvAll_ints xs ys)
/-! ### draws -/
def IsDr (d : Dat) : Prop := ∃ ns : List Int, d = .lst (ns.map .int) ∧ ns.length ≤ 5000
theorem take_run (W : Wd) (n : Nat) {row : Dat} {m : Int} (hr : IsDr row) (h0 : 0 < m) : ∃ v row', runD W n d_law_take [row, .int m] = some (.val (.int v), row') ∧ 0 ≤ v ∧ v < m ∧ IsDr row' := by
  obtain ⟨ns, rfl, hl⟩ := hr
  have eq := eqD_ints ns []
  have e0 : ([] : List Int).map Dat.int = [] := rfl
  rw [e0] at eq
  cases ns with
  | nil =>
    refine ⟨0, .lst [], ?_, by omega, h0, [], rfl, by simp⟩
    refine runD_val (r := [some ⟨.lst [], .io⟩, some ⟨.int m, .fz⟩]) rfl ?_ rfl
    refine runB_ret ?_
    have eq : eqD (.lst []) (.lst []) = some true := eq
    simp [startR, d_law_take, look, res, sem2, semEq, pre2, eq]
  | cons x ns =>
    have hx : 0 ≤ x % m ∧ x % m < m := ⟨Int.emod_nonneg _ (by omega), Int.emod_lt_of_pos _ h0⟩
    refine ⟨x % m, .lst (ns.map .int), ?_, hx.1, hx.2, ns, rfl, by rw [List.length_cons] at hl; omega⟩
    have md := mod_eq (i := x) h0
    refine runD_val (r := [some ⟨.lst (ns.map .int), .io⟩, some ⟨.int m, .fz⟩]) rfl ?_ rfl
    have eq : eqD (.lst (.int x :: ns.map .int)) (.lst []) = some false := eq
    have ix : ixN (ns.length + 1) 0 = some 0 := ixN_of (by omega) (by omega)
    refine (runB_next (r' := [some ⟨.lst (.int x :: ns.map .int), .io⟩, some ⟨.int m, .fz⟩]) ?_).trans ?_
    · simp [startR, d_law_take, look, res, sem2, semEq, pre2, eq]
    · simp [run_pop, look, res, isLst, ix, sem2, pre2, md]
structure HasTk (W : Wd) : Prop where
  io : W.io "_law_take" = some (some 0)
  run : ∀ (row : Dat) (m : Int), IsDr row → 0 < m → ∃ v row', W.phi "_law_take" [row, .int m] = some (.val (.int v), row') ∧ 0 ≤ v ∧ v < m ∧ IsDr row'
/-- while, a number that falls -/
theorem whl_dec {t : Rho → Option (Bool × Rho)} {body : Rho → Option Fl} {wp : List Nat} (I : Nat → Rho → Prop) (J : Rho → Prop) (h : ∀ m r, I m r → ∃ b r1, t r = some (b, r1) ∧ (b = false → J (wipeR r1 wp)) ∧ (b = true → ∃ m' r2, m = m' + 1 ∧ body r1 = some (.next r2) ∧ I m' (wipeR r2 wp))) :
    ∀ (m n : Nat) (r : Rho), m < n → I m r → ∃ r', whlD t body wp n r = some (.next r') ∧ J r'
  | m, 0, r, hn, _ => absurd hn (Nat.not_lt_zero _)
  | m, n + 1, r, hn, hi => by
    obtain ⟨b, r1, e, h1, h2⟩ := h m r hi
    cases b with
    | false =>
      refine ⟨wipeR r1 wp, ?_, h1 rfl⟩
      rw [whlD, e]
    | true =>
      obtain ⟨m', r2, rfl, e2, i2⟩ := h2 rfl
      obtain ⟨r', e3, j⟩ := whl_dec I J h m' n (wipeR r2 wp) (by omega) i2
      refine ⟨r', ?_, j⟩
      rw [whlD, e]
      dsimp only
      rw [e2]
      exact e3
theorem line5000 {n : Nat} (h : n ≤ 5000) : n < sizeLine := by rw [sizeLine_eq]; omega
theorem draws_run (W : Wd) {ns : List Int} (hl : ns.length ≤ 63) : ∃ row, runD W 1000000 d_law_draws [.lst (ns.map .int)] = some (.fresh row, .non) ∧ IsDr row := by
  let st : List Int → Rho := fun l => [some ⟨.lst (ns.map .int), .fz⟩, some ⟨.lst (l.map .int), .own⟩, none, none, none, none]
  let wbody : Ss := (.cons (.expr (.app 1 (.op2 .mod (.var 3) (.int 1000))))
    (.cons (.set 3 (.op2 .div (.var 3) (.int 1000)))
    (.cons (.set 5 (.op2 .add (.var 5) (.int 1)))
    .nil)))
  let body : Ss := (.cons (.set 3 (.op1 .abs (.op2 .at (.var 0) (.var 2))))
    (.cons (.ife (.cmp .lt (.var 3) (.op2 .pow (.int 10) (.int 18))) (.cons (.set 4 (.op2 .mod (.op2 .mul (.op2 .mod (.op2 .add (.op2 .add (.var 3) (.op2 .mul (.int 7919) (.var 2))) (.int 3)) (.int 2147483647)) (.int 48271)) (.int 2147483647)))
    (.cons (.set 4 (.op2 .mod (.op2 .mul (.var 4) (.var 4)) (.int 2147483629)))
    (.cons (.expr (.app 1 (.op2 .mod (.op2 .div (.var 4) (.int 16)) (.int 1000))))
    (.cons (.expr (.app 1 (.op2 .mod (.op2 .div (.var 4) (.int 16000)) (.int 1000))))
    (.cons (.set 4 (.op2 .mod (.op2 .add (.var 4) (.op2 .mul (.int 40692) (.op2 .add (.var 2) (.int 7)))) (.int 2147483587)))
    (.cons (.expr (.app 1 (.op2 .mod (.op2 .div (.op2 .mod (.op2 .mul (.var 4) (.var 4)) (.int 2147483647)) (.int 16)) (.int 1000))))
    .nil)))))) (.cons (.set 5 (.int 0))
    (.cons (.whl (.and (.cmp .ge (.var 3) (.int 1000)) (.cmp .lt (.var 5) (.int 60))) wbody [2, 4])
    .nil)))
    .nil))
  have hmin : semMin2 (.int ns.length) (.int 80) = some (.val (.int ns.length)) := by
    show some (Out.val (.int (if (80 : Int) < _ then _ else _))) = _
    rw [if_neg (by omega)]
  obtain ⟨r', lp, l, hll, rfl⟩ := forD_ix (f := stepF W 1000000 (.name 2) body) (wp := [2, 3, 4, 5]) (fun i r => ∃ l : List Int, l.length ≤ 60 * i ∧ r = st l) (rangeD 0 ns.length) 0 (st []) ⟨[], Nat.zero_le _, rfl⟩ (by
    rintro i d r hd ⟨l, hll, rfl⟩
    rw [Nat.zero_add] at hll ⊢
    have hi : i < ns.length := by
      have := (List.getElem?_eq_some_iff.mp hd).1
      rw [rangeD_len] at this
      exact this
    have ed : d = .int (i : Nat) := by
      unfold rangeD at hd
      rw [List.getElem?_map, List.getElem?_range hi] at hd
      have hd := Option.some.inj hd
      rw [← hd]
      exact congrArg Dat.int (by omega)
    subst ed
    have ea : semAt (.lst (ns.map .int)) (.int (i : Nat)) = some (.val (.int ns[i])) := by
      show (atI _ _).map Out.val = _
      rw [atI_nat (show (ns.map Dat.int)[i]? = some (.int ns[i]) by rw [List.getElem?_map, List.getElem?_eq_getElem hi]; rfl)]
      rfl
    obtain ⟨x, hx, ex⟩ : ∃ x : Int, 0 ≤ x ∧ semAbs (.int ns[i]) = some (.val (.int x)) := ⟨if ns[i] < 0 then -ns[i] else ns[i], by split <;> omega, rfl⟩
    generalize ns[i] = y at ea ex
    let s3 : Rho := [some ⟨.lst (ns.map .int), .fz⟩, some ⟨.lst (l.map .int), .own⟩, some ⟨.int (i : Nat), .fz⟩, some ⟨.int x, .fz⟩, none, none]
    have first : runS W 1000000 (.set 3 (.op1 .abs (.op2 .at (.var 0) (.var 2)))) [some ⟨.lst (ns.map .int), .fz⟩, some ⟨.lst (l.map .int), .own⟩, some ⟨.int (i : Nat), .fz⟩, none, none, none] = some (.next s3) := by
      simp only [s3]
      generalize ns.map Dat.int = u at ea ⊢
      simp [look, res, sem1, sem2, pre2, ea, ex, store]
    have tst : runT W (.cmp .lt (.var 3) (.op2 .pow (.int 10) (.int 18))) s3 = some (decide (x < 1000000000000000000), s3) := by
      simp [s3, look, res, sem2, semLt, semPow, pre2]
    have hs : ∀ k : Nat, k ≤ 63 * 60 → k < sizeLine := fun k hk => line5000 (by omega)
    by_cases hc : x < 1000000000000000000
    · rw [decide_eq_true hc] at tst
      have b1 : 0 ≤ (x + 7919 * (i : Nat) + 3) % 2147483647 ∧ (x + 7919 * (i : Nat) + 3) % 2147483647 < 2147483647 := ⟨Int.emod_nonneg _ (by decide), Int.emod_lt_of_pos _ (by decide)⟩
      generalize hz1 : (x + 7919 * (i : Nat) + 3) % 2147483647 = z1 at b1
      have b2 : 0 ≤ z1 * 48271 % 2147483647 ∧ z1 * 48271 % 2147483647 < 2147483647 := ⟨Int.emod_nonneg _ (by decide), Int.emod_lt_of_pos _ (by decide)⟩
      generalize hz2 : z1 * 48271 % 2147483647 = z2 at b2
      have b3 : 0 ≤ z2 * z2 % 2147483629 ∧ z2 * z2 % 2147483629 < 2147483629 := ⟨Int.emod_nonneg _ (by decide), Int.emod_lt_of_pos _ (by decide)⟩
      generalize hz3 : z2 * z2 % 2147483629 = z3 at b3
      have b4 : 0 ≤ (z3 + 40692 * ((i : Nat) + 7)) % 2147483587 ∧ (z3 + 40692 * ((i : Nat) + 7)) % 2147483587 < 2147483587 := ⟨Int.emod_nonneg _ (by decide), Int.emod_lt_of_pos _ (by decide)⟩
      generalize hz4 : (z3 + 40692 * ((i : Nat) + 7)) % 2147483587 = z4 at b4
      have m0 := mul_eq (i := 7919) (j := (i : Nat)) (by decide)
      have m1 := mul_eq (i := z1) (j := 48271) (by omega)
      have m2 := mul_eq (i := z2) (j := z2) (by omega)
      have m3 := mul_eq (i := 40692) (j := (i : Nat) + 7) (by decide)
      have m4 := mul_eq (i := z4) (j := z4) (by omega)
      let l' : List Int := l ++ [z3 / 16 % 1000, z3 / 16000 % 1000, z4 * z4 % 2147483647 / 16 % 1000]
      refine ⟨[some ⟨.lst (ns.map .int), .fz⟩, some ⟨.lst (l'.map .int), .own⟩, some ⟨.int (i : Nat), .fz⟩, some ⟨.int x, .fz⟩, some ⟨.int z4, .fz⟩, none], ?_, l', by simp only [l', List.length_append, List.length_cons, List.length_nil]; omega, rfl⟩
      show runB W 1000000 body [some ⟨.lst (ns.map .int), .fz⟩, some ⟨.lst (l.map .int), .own⟩, some ⟨.int (i : Nat), .fz⟩, none, none, none] = _
      refine (runB_next first).trans ?_
      refine (runB_next (r' := [some ⟨.lst (ns.map .int), .fz⟩, some ⟨.lst (l'.map .int), .own⟩, some ⟨.int (i : Nat), .fz⟩, some ⟨.int x, .fz⟩, some ⟨.int z4, .fz⟩, none]) ?_).trans (by simp)
      rw [runS_ife, tst]
      show runB W 1000000 _ s3 = _
      have h1 := hs l.length (by omega)
      have h2 := hs (l.length + 1) (by omega)
      have h3 := hs (l.length + 2) (by omega)
      refine (runB_next (r' := [some ⟨.lst (ns.map .int), .fz⟩, some ⟨.lst (l.map .int), .own⟩, some ⟨.int (i : Nat), .fz⟩, some ⟨.int x, .fz⟩, some ⟨.int z2, .fz⟩, none]) ?_).trans ?_
      · simp [s3, look, res, sem2, semAdd, semMod, m0, m1, pre2, hz1, hz2, store]
      refine (runB_next (r' := [some ⟨.lst (ns.map .int), .fz⟩, some ⟨.lst (l.map .int), .own⟩, some ⟨.int (i : Nat), .fz⟩, some ⟨.int x, .fz⟩, some ⟨.int z3, .fz⟩, none]) ?_).trans ?_
      · simp [look, res, sem2, semMod, m2, pre2, hz3, store]
      refine (runB_next (r' := [some ⟨.lst (ns.map .int), .fz⟩, some ⟨.lst (l.map .int ++ [.int (z3 / 16 % 1000)]), .own⟩, some ⟨.int (i : Nat), .fz⟩, some ⟨.int x, .fz⟩, some ⟨.int z3, .fz⟩, none]) ?_).trans ?_
      · simp [run_app, look, res, frz, isLst, sem2, semMod, semDiv, pre2, h1]
      refine (runB_next (r' := [some ⟨.lst (ns.map .int), .fz⟩, some ⟨.lst (l.map .int ++ [.int (z3 / 16 % 1000)] ++ [.int (z3 / 16000 % 1000)]), .own⟩, some ⟨.int (i : Nat), .fz⟩, some ⟨.int x, .fz⟩, some ⟨.int z3, .fz⟩, none]) ?_).trans ?_
      · simp [run_app, look, res, frz, isLst, sem2, semMod, semDiv, pre2, h2]
      refine (runB_next (r' := [some ⟨.lst (ns.map .int), .fz⟩, some ⟨.lst (l.map .int ++ [.int (z3 / 16 % 1000)] ++ [.int (z3 / 16000 % 1000)]), .own⟩, some ⟨.int (i : Nat), .fz⟩, some ⟨.int x, .fz⟩, some ⟨.int z4, .fz⟩, none]) ?_).trans ?_
      · simp [look, res, sem2, semMod, semAdd, m3, pre2, hz4, store]
      · simp [run_app, look, res, frz, isLst, sem2, semMod, semDiv, m4, pre2, h3, l']
    · rw [decide_eq_false hc] at tst
      let s5 : List Int → Int → Int → Rho := fun l x c => [some ⟨.lst (ns.map .int), .fz⟩, some ⟨.lst (l.map .int), .own⟩, none, some ⟨.int x, .fz⟩, none, some ⟨.int c, .fz⟩]
      obtain ⟨r', wl, l', x', c', hl', rfl⟩ := whl_dec (t := runT W (.and (.cmp .ge (.var 3) (.int 1000)) (.cmp .lt (.var 5) (.int 60)))) (body := runB W 1000000 wbody) (wp := [2, 4]) (fun m r => ∃ (l' : List Int) (x c : Int), l'.length + m ≤ l.length + 60 ∧ (m : Int) = 60 - c ∧ r = s5 l' x c) (fun r => ∃ (l' : List Int) (x c : Int), l'.length ≤ l.length + 60 ∧ r = s5 l' x c) (by
        rintro m r ⟨l', x, c, h1, h2, rfl⟩
        by_cases hg : 1000 ≤ x ∧ c < 60
        · have g1 := hg.1
          have g2 := hg.2
          refine ⟨true, s5 l' x c, ?_, (fun z => nomatch z), fun _ => ⟨m - 1, s5 (l' ++ [x % 1000]) (x / 1000) (c + 1), by omega, ?_, l' ++ [x % 1000], x / 1000, c + 1, by rw [List.length_append, List.length_singleton]; omega, by omega, rfl⟩⟩
          · simp [s5, look, res, sem2, semGe, semLe, semLt, pre2, g1, g2]
          · have h3 := hs l'.length (by omega)
            have sa : semAdd (.int c) (.int 1) = some (.val (.int (c + 1))) := rfl
            simp [wbody, s5, run_app, look, res, frz, isLst, sem2, semMod, semDiv, sa, pre2, h3, store]
        · refine ⟨false, s5 l' x c, ?_, fun _ => ⟨l', x, c, by omega, rfl⟩, (fun z => nomatch z)⟩
          by_cases g1 : 1000 ≤ x
          · have g2 : ¬ c < 60 := fun z => hg ⟨g1, z⟩
            have g2' : 60 ≤ c := by omega
            simp [s5, look, res, sem2, semGe, semLe, semLt, pre2, g1, g2']
          · have g1' : x < 1000 := by omega
            simp [s5, look, res, sem2, semGe, semLe, semLt, pre2, g1']
            omega) 60 1000000 (s5 l x 0) (by decide) ⟨l, x, 0, by omega, rfl, rfl⟩
      refine ⟨s5 l' x' c', ?_, l', by omega, rfl⟩
      show runB W 1000000 body [some ⟨.lst (ns.map .int), .fz⟩, some ⟨.lst (l.map .int), .own⟩, some ⟨.int (i : Nat), .fz⟩, none, none, none] = _
      refine (runB_next first).trans ?_
      refine (runB_next (r' := s5 l' x' c') ?_).trans (by simp)
      rw [runS_ife, tst]
      show runB W 1000000 _ s3 = _
      refine (runB_next (r' := [some ⟨.lst (ns.map .int), .fz⟩, some ⟨.lst (l.map .int), .own⟩, some ⟨.int (i : Nat), .fz⟩, some ⟨.int x, .fz⟩, none, some ⟨.int 0, .fz⟩]) ?_).trans ?_
      · simp [s3, store]
      refine (runB_next (r' := s5 l' x' c') ?_).trans (by simp)
      rw [runS_whl]
      exact wl)
  rw [Nat.zero_add, rangeD_len] at hll
  have el : semLen (.lst (ns.map .int)) = some (.val (.int ns.length)) := by
    show some (Out.val (.int (((ns.map Dat.int).length : Nat) : Int))) = _
    rw [List.length_map]
  have ec : semCut (.lst (l.map .int)) none (some 240) = some (.fresh (.lst ((cutL l none (some 240)).map .int))) := by
    show some (Out.fresh (.lst (cutL (l.map Dat.int) none (some 240)))) = _
    unfold cutL
    rw [List.length_map, List.map_take, List.map_drop]
  refine ⟨.lst ((cutL l none (some 240)).map .int), ?_, _, rfl, ?_⟩
  · refine runD_fresh (r := st l) rfl ?_ rfl
    refine (runB_next (r' := st []) ?_).trans ?_
    · simp [st, startR, d_law_draws, store]
    refine (runB_next (r' := st l) ?_).trans ?_
    · have src : runI W (.rng1 (.op2 .min2 (.op1 .len (.var 0)) (.int 80))) (st []) = some (rangeD 0 ns.length, st []) := by
        have := small_line (n := ns.length) (by omega)
        simp only [st]
        generalize ns.map Dat.int = u at el ⊢
        simp [runI_rng1, look, res, sem1, sem2, el, hmin, pre2]
        omega
      rw [runS_for, src]
      exact lp
    · simp only [st]
      generalize l.map Dat.int = u at ec ⊢
      simp [look, res, ec]
  · unfold cutL
    rw [List.length_take, List.length_drop]
    omega
structure DrL (cs : List Nat) : Prop where
  pos : 0 < cs.length
  few : cs.length ≤ 26
  low : ∀ c ∈ cs, Low c
theorem pick_at {v u : Int} (hu0 : 0 ≤ u) (hu1 : u < 2) : ∃ z : Int, semAt (.lst [.int 0, .int v]) (.int u) = some (.val (.int z)) ∧ (z = 0 ∨ z = v) := by
  rcases (by omega : u = 0 ∨ u = 1) with rfl | rfl
  · exact ⟨0, rfl, .inl rfl⟩
  · exact ⟨v, rfl, .inr rfl⟩
theorem step_of {x : Str} {k : Int} {so : List Nat} (hk : (k == 0) = false) (h : stepS x none k = ⟨so.toArray⟩) (hl : so.length ≤ 1000) : semStep (.str x) none k = some (.val (tx so)) := by
  show (if (k == 0) = false ∧ (stepS x none k).length ≤ sizeLine then some (Out.val (.str (stepS x none k))) else none) = _
  have hz : (⟨so.toArray⟩ : Str).length ≤ sizeLine := by
    show so.toArray.size ≤ sizeLine
    rw [List.size_toArray]
    exact small_line hl
  rw [h, if_pos ⟨hk, hz⟩]
  rfl
theorem letters_run {W : Wd} (n : Nat) (hW : HasTk W) {row : Dat} (hr : IsDr row) {m : Int} (m0 : 0 < m) (m5 : m ≤ 5) :
    ∃ (cs : List Nat) (row' : _), runD W n d_law_letters [row, .int m] = some (.val (tx cs), row') ∧ DrL cs ∧ (cs.length : Int) ≤ m ∧ IsDr row' := by
  obtain ⟨u, r1, t1, u0, u1, h1⟩ := hW.run row 2 hr (by decide)
  obtain ⟨v, r2, t2, v0, v1, h2⟩ := hW.run r1 m h1 m0
  obtain ⟨so, es, hso, hsl⟩ : ∃ so : List Nat, (∃ z : Int, semAt (.lst [.int 1, .int 5]) (.int u) = some (.val (.int z)) ∧ semStep (.str "abcdefghijklmnopqrstuvwxyz") none z = some (.val (tx so))) ∧ (∀ c ∈ so, Low c) ∧ 6 ≤ so.length ∧ so.length ≤ 26 := by
    rcases (by omega : u = 0 ∨ u = 1) with rfl | rfl
    · exact ⟨abc, ⟨1, rfl, step_of (by decide) (by decide +kernel) (by decide)⟩, abc_low, by decide, by decide⟩
    · exact ⟨[97, 102, 107, 112, 117, 122], ⟨5, rfl, step_of (by decide) (by decide +kernel) (by decide)⟩, by unfold Low; decide, by decide, by decide⟩
  obtain ⟨z, ez1, ez2⟩ := es
  let st : Dat → List Nat → List Nat → Rho := fun row l a => [some ⟨row, .io⟩, none, some ⟨.lst ((l.map sg).map .str), .own⟩, none, some ⟨.lst ((a.map sg).map .str), .own⟩, none]
  let body : Ss := (.cons (.expr (.app 4 (.pop 2 (.op2 .at (.lst (.cons (.int 0) (.cons (.call "_law_take" (.cons (.var 0) (.cons (.op1 .len (.var 2)) .nil))) .nil))) (.call "_law_take" (.cons (.var 0) (.cons (.int 2) .nil))))))) .nil)
  obtain ⟨r', lp, row', l, a, h3, hla, hl, ha, rfl⟩ := forD_ix (f := stepF W n (.name 5) body) (wp := [1, 3, 5]) (fun i r => ∃ (row : Dat) (l a : List Nat), IsDr row ∧ a.length = i ∧ l.length + i = so.length ∧ ((∀ c ∈ l, Low c) ∧ ∀ c ∈ a, Low c) ∧ r = st row l a) (rangeD 0 (1 + v).toNat) 0 (st r2 so []) ⟨r2, so, [], h2, rfl, rfl, ⟨hso, fun _ q => nomatch q⟩, rfl⟩ (by
    rintro i d r hd ⟨row, l, a, hr, hai, hli, ⟨hl, ha⟩, rfl⟩
    rw [Nat.zero_add] at hai hli ⊢
    have hi : i < (1 + v).toNat := by
      have := (List.getElem?_eq_some_iff.mp hd).1
      rw [rangeD_len] at this
      exact this
    have hpos : 0 < l.length := by omega
    obtain ⟨p, r3, t3, p0, p1, h3⟩ := hW.run row l.length hr (by omega)
    obtain ⟨q, r4, t4, q0, q1, h4⟩ := hW.run r3 2 h3 (by decide)
    obtain ⟨z, ez, hz⟩ := pick_at (v := p) q0 q1
    have z0 : 0 ≤ z := by omega
    have z1 : z < l.length := by omega
    have hzn : z.toNat < l.length := by omega
    have el : semLen (.lst ((l.map sg).map .str)) = some (.val (.int l.length)) := by
      show some (Out.val (.int ((((l.map sg).map Dat.str).length : Nat) : Int))) = _
      rw [List.length_map, List.length_map]
    have ix : ixN ((l.map sg).map Dat.str).length z = some z.toNat := by rw [List.length_map, List.length_map]; exact ixN_of z0 z1
    have eg : ((l.map sg).map Dat.str)[z.toNat]? = some (.str (sg l[z.toNat])) := by rw [List.getElem?_map, List.getElem?_map, List.getElem?_eq_getElem hzn]; rfl
    have ee : ((l.map sg).map Dat.str).eraseIdx z.toNat = ((l.eraseIdx z.toNat).map sg).map .str := by rw [erase_map, erase_map]
    have sz : ((a.map sg).map Dat.str).length < sizeLine := by rw [List.length_map, List.length_map]; exact small1000 (by omega)
    have ea : ((a ++ [l[z.toNat]]).map sg).map Dat.str = (a.map sg).map .str ++ [.str (sg l[z.toNat])] := by simp
    refine ⟨[some ⟨r4, .io⟩, none, some ⟨.lst (((l.eraseIdx z.toNat).map sg).map .str), .own⟩, none, some ⟨.lst (((a ++ [l[z.toNat]]).map sg).map .str), .own⟩, some ⟨d, .fz⟩], ?_, r4, l.eraseIdx z.toNat, a ++ [l[z.toNat]], h4, by rw [List.length_append, List.length_singleton]; omega, by rw [List.length_eraseIdx, if_pos hzn]; omega, ⟨fun c hc => hl c (List.mem_of_mem_eraseIdx hc), fun c hc => ?_⟩, rfl⟩
    · show runB W n body [some ⟨row, .io⟩, none, some ⟨.lst ((l.map sg).map .str), .own⟩, none, some ⟨.lst ((a.map sg).map .str), .own⟩, some ⟨d, .fz⟩] = _
      rw [ea]
      generalize ((l.eraseIdx z.toNat).map sg).map Dat.str = M at ee ⊢
      generalize (l.map sg).map Dat.str = L at el ix eg ee ⊢
      generalize (a.map sg).map Dat.str = A at sz ⊢
      simp [body, run_app, run_pop, look, res, frz, lend, resAll, giveBack, hW.io, sem1, el, t3, t4, sem2, pre2, ez, isLst, ix, eg, ee, sz]
    · rcases List.mem_append.mp hc with h | h
      · exact ha c h
      · rw [List.mem_singleton.mp h]
        exact hl _ (List.getElem_mem hzn))
  rw [Nat.zero_add, rangeD_len] at hla
  have hso2 := semSorted_sg a
  have j := semJoin_signs (sortN a) (by rw [(sortN_perm a).length_eq]; omega)
  refine ⟨sortN a, row', ?_, ⟨by rw [(sortN_perm a).length_eq]; omega, by rw [(sortN_perm a).length_eq]; omega, fun c hc => ha.2 c ((sortN_perm a).mem_iff.mp hc)⟩, by rw [(sortN_perm a).length_eq]; omega, h3⟩
  refine runD_val (r := st row' l a) rfl ?_ rfl
  refine (runB_next (r' := [some ⟨r1, .io⟩, some ⟨.int m, .fz⟩, some ⟨.lst ((so.map sg).map .str), .own⟩, none, none, none]) ?_).trans ?_
  · have li : semList (tx so) = some (.fresh (.lst ((so.map sg).map .str))) := list_tx so
    generalize (so.map sg).map Dat.str = S at li ⊢
    simp [startR, d_law_letters, run_step, look, res, frz, lend, resAll, giveBack, hW.io, t1, sem1, sem2, pre2, ez1, ez2, li, store]
  refine (runB_next (r' := [some ⟨r2, .io⟩, some ⟨.int m, .fz⟩, some ⟨.lst ((so.map sg).map .str), .own⟩, some ⟨.int (1 + v), .fz⟩, none, none]) ?_).trans ?_
  · simp [look, res, frz, lend, resAll, giveBack, hW.io, t2, sem2, semAdd, pre2, store]
  refine (runB_next (r' := [some ⟨r2, .io⟩, some ⟨.int m, .fz⟩, some ⟨.lst ((so.map sg).map .str), .own⟩, some ⟨.int (1 + v), .fz⟩, some ⟨.lst [], .own⟩, none]) ?_).trans ?_
  · simp [store]
  refine (runB_next (r' := st row' l a) ?_).trans ?_
  · have src : runI W (.rng1 (.var 3)) [some ⟨r2, .io⟩, some ⟨.int m, .fz⟩, some ⟨.lst ((so.map sg).map .str), .own⟩, some ⟨.int (1 + v), .fz⟩, some ⟨.lst [], .own⟩, none] = some (rangeD 0 (1 + v).toNat, [some ⟨r2, .io⟩, some ⟨.int m, .fz⟩, some ⟨.lst ((so.map sg).map .str), .own⟩, some ⟨.int (1 + v), .fz⟩, some ⟨.lst [], .own⟩, none]) := by
      have := small_line (n := (1 + v).toNat) (by omega)
      simp [runI_rng1, look, res]
      omega
    rw [runS_for, src]
    exact lp
  · refine runB_ret ?_
    rw [runS_ret, run_op2, run_str]
    simp only [run_op1, run_var]
    have lk : look (st row' l a) 4 = some ⟨.lst ((a.map sg).map .str), .own⟩ := rfl
    simp only [lk, Option.map_some, Option.bind_some, res, pre2, isStr, if_pos, sem1, hso2, sem2, j]
    rfl
/-! ### machines -/
structure Mc where
  cs : List Nat
  tb : List (List Nat)
  es : List Nat
def nats (l : List Nat) : List Dat := l.map fun k => .int (k : Nat)
def rowsD (tb : List (List Nat)) : List Dat := tb.map fun r => .tup (nats r)
def Mc.d (M : Mc) : Dat := .tup [tx M.cs, .tup (rowsD M.tb), .tup (nats M.es)]
theorem all_nats {N : Nat} {xs : List Dat} (h : ∀ x ∈ xs, ∃ c : Nat, x = .int (c : Nat) ∧ c < N) : ∃ cs : List Nat, xs = nats cs ∧ ∀ c ∈ cs, c < N := by
  induction xs with
  | nil => exact ⟨[], rfl, fun _ q => nomatch q⟩
  | cons x xs ih =>
    obtain ⟨cs, e, h2⟩ := ih fun y hy => h y (List.mem_cons_of_mem _ hy)
    obtain ⟨c, rfl, hc⟩ := h x List.mem_cons_self
    refine ⟨c :: cs, by rw [e]; rfl, fun d hd => ?_⟩
    rcases List.mem_cons.mp hd with rfl | hd
    · exact hc
    · exact h2 d hd
theorem machine_run {W : Wd} (n : Nat) (hW : HasTk W) {row : Dat} (hr : IsDr row) {cs : List Nat} (hc : DrL cs) {m : Int} (m0 : 0 < m) (m9 : m ≤ 900) :
    ∃ (M : Mc) (row' : _), runD W n d_law_machine [row, tx cs, .int m] = some (.val M.d, row') ∧ M.cs = cs ∧ 0 < M.tb.length ∧ (M.tb.length : Int) ≤ m ∧ (∀ r ∈ M.tb, r.length = cs.length ∧ ∀ x ∈ r, x < M.tb.length) ∧ M.es.length ≤ M.tb.length ∧ (∀ x ∈ M.es, x < M.tb.length) ∧ IsDr row' := by
  obtain ⟨v, r1, t1, v0, v1, h1⟩ := hW.run row m hr m0
  obtain ⟨N, hN⟩ : ∃ N : Nat, 1 + v = N := ⟨(1 + v).toNat, by omega⟩
  let st : Dat → List (List Nat) → Rho := fun row tb => [some ⟨row, .io⟩, some ⟨tx cs, .fz⟩, none, some ⟨.int (N : Nat), .fz⟩, some ⟨.lst (rowsD tb), .own⟩, none, none, none, none]
  have hfew := hc.few
  let elt : E := .op2 .at (.lst (.cons (.call "_law_take" (.cons (.var 0) (.cons (.var 3) .nil))) (.cons (.op2 .min2 (.op2 .sub (.var 3) (.int 1)) (.op2 .add (.var 5) (.int 1))) .nil))) (.call "_law_take" (.cons (.var 0) (.cons (.int 2) .nil)))
  let body : Ss := (.cons (.set 7 (.comp [8] (.name 8) (.seq (.var 1)) .no elt)) (.cons (.expr (.app 4 (.op1 .tuple (.var 7)))) .nil))
  obtain ⟨r', lp, row2, tb, h2, htl, htb, rfl⟩ := forD_ix (f := stepF W n (.name 5) body) (wp := [2, 5, 6, 7, 8]) (fun i r => ∃ (row : Dat) (tb : List (List Nat)), IsDr row ∧ tb.length = i ∧ (∀ r ∈ tb, r.length = cs.length ∧ ∀ x ∈ r, x < N) ∧ r = st row tb) (rangeD 0 N) 0 (st r1 []) ⟨r1, [], h1, rfl, (fun _ q => nomatch q), rfl⟩ (by
    rintro i d r hd ⟨row, tb, hr, htl, htb, rfl⟩
    rw [Nat.zero_add] at htl ⊢
    have hi : i < N := by
      have := (List.getElem?_eq_some_iff.mp hd).1
      rw [rangeD_len] at this
      exact this
    have ed : d = .int (i : Nat) := by
      unfold rangeD at hd
      rw [List.getElem?_map, List.getElem?_range hi] at hd
      have hd := Option.some.inj hd
      rw [← hd]
      exact congrArg Dat.int (by omega)
    subst ed
    let s1 : Dat → Rho := fun row => [some ⟨row, .io⟩, some ⟨tx cs, .fz⟩, none, some ⟨.int (N : Nat), .fz⟩, some ⟨.lst (rowsD tb), .own⟩, some ⟨.int (i : Nat), .fz⟩, none, none, none]
    obtain ⟨xs, r2, q1, q2, q3, row2, h2, rfl⟩ := compD_inv (f := turnC W [8] (.name 8) .no elt) ((cs.map sg).map Dat.str).length (fun _ r => ∃ row, IsDr row ∧ r = s1 row) (fun x => ∃ c : Nat, x = .int (c : Nat) ∧ c < N) ((cs.map sg).map .str) 0 (s1 row) (Nat.zero_add _) ⟨row, hr, rfl⟩ (by
      rintro j d r hj hd ⟨row, hr, rfl⟩
      obtain ⟨p, r3, t3, p0, p1, h3⟩ := hW.run row N hr (by omega)
      obtain ⟨q, r4, t4, q0, q1, h4⟩ := hW.run r3 2 h3 (by decide)
      have mn : semMin2 (.int ((N : Int) - 1)) (.int ((i : Int) + 1)) = some (.val (.int (if (i : Int) + 1 < (N : Int) - 1 then (i : Int) + 1 else (N : Int) - 1))) := rfl
      obtain ⟨w, hw0, hw1, hwe⟩ : ∃ w : Int, 0 ≤ w ∧ w < N ∧ (if (i : Int) + 1 < (N : Int) - 1 then (i : Int) + 1 else (N : Int) - 1) = w := ⟨_, by split <;> omega, by split <;> omega, rfl⟩
      rw [hwe] at mn
      obtain ⟨z, ez, hz0, hz1⟩ : ∃ z : Int, semAt (.lst [.int p, .int w]) (.int q) = some (.val (.int z)) ∧ 0 ≤ z ∧ z < N := by
        rcases (by omega : q = 0 ∨ q = 1) with rfl | rfl
        · exact ⟨p, rfl, p0, p1⟩
        · exact ⟨w, rfl, hw0, hw1⟩
      have sb : semSub (.int (N : Nat)) (.int 1) = some (.val (.int ((N : Int) - 1))) := rfl
      have sa : semAdd (.int (i : Nat)) (.int 1) = some (.val (.int ((i : Int) + 1))) := rfl
      refine ⟨.int z, s1 r4, ?_, ⟨z.toNat, by rw [show ((z.toNat : Nat) : Int) = z from by omega], by omega⟩, r4, h4, rfl⟩
      simp [s1, elt, turnC, bindT, look, res, frz, lend, resAll, giveBack, hW.io, t3, t4, sem2, pre2, sb, sa, mn, ez, wipeR])
    obtain ⟨ys, rfl, hys⟩ := all_nats q3
    have hyl : ys.length = cs.length := by
      rw [List.length_map, List.length_map] at q2
      unfold nats at q2
      rw [List.length_map] at q2
      exact q2
    refine ⟨(s1 row2).set 4 (some ⟨.lst (rowsD (tb ++ [ys])), .own⟩) |>.set 7 (some ⟨.lst (nats ys), .own⟩), ?_, row2, tb ++ [ys], h2, by rw [List.length_append, List.length_singleton]; omega, fun r hr => ?_, rfl⟩
    · show runB W n body (s1 row) = _
      refine (runB_next (r' := (s1 row2).set 7 (some ⟨.lst (nats ys), .own⟩)) ?_).trans ?_
      · have src : runI W (.seq (.var 1)) (s1 row) = some ((cs.map sg).map .str, s1 row) := by
          simp only [runI_seq, run_var]
          rfl
        rw [runS_set, run_comp, src]
        show Option.bind (Option.bind (compD _ _ (s1 row)) _) _ = _
        rw [q1]
        simp [s1, back, look, store]
      · have sz : (rowsD tb).length < sizeLine := by unfold rowsD; rw [List.length_map]; exact small1000 (by omega)
        have ea : rowsD (tb ++ [ys]) = rowsD tb ++ [.tup (nats ys)] := by unfold rowsD; simp
        have tp : semTuple (.lst (nats ys)) = some (.val (.tup (nats ys))) := rfl
        rw [ea]
        simp [s1, run_app, look, res, frz, isLst, sem1, tp, sz]
    · rcases List.mem_append.mp hr with h | h
      · exact htb r h
      · rw [List.mem_singleton.mp h]
        exact ⟨hyl, hys⟩)
  rw [Nat.zero_add, rangeD_len] at htl
  let s6 : Dat → Rho := fun row => st row tb
  obtain ⟨xs, r3, q1, q2, q3, row3, h3, rfl⟩ := compD_filter (f := turnC W [5] (.name 5) (.yes (.cmp .eq (.call "_law_take" (.cons (.var 0) (.cons (.int 3) .nil))) (.int 0))) (.var 5)) (fun r => ∃ row, IsDr row ∧ r = s6 row) (fun x => ∃ c : Nat, x = .int (c : Nat) ∧ c < N) (rangeD 0 N) (s6 row2) ⟨row2, h2, rfl⟩ (by
    rintro d r hd ⟨row, hr, rfl⟩
    obtain ⟨k, hk, rfl⟩ := rangeD_mem hd
    obtain ⟨p, r3, t3, p0, p1, h3⟩ := hW.run row 3 hr (by decide)
    by_cases hp : p = 0
    · subst hp
      refine ⟨some (.int (0 + (k : Nat))), s6 r3, ?_, fun y hy => ⟨k, ?_, hk⟩, r3, h3, rfl⟩
      · simp [s6, st, turnC, bindT, look, res, frz, lend, resAll, giveBack, hW.io, t3, sem2, semEq, eqD, pre2, wipeR]
      · cases hy
        exact congrArg Dat.int (by omega)
    · refine ⟨none, s6 r3, ?_, (fun y hy => nomatch hy), r3, h3, rfl⟩
      simp [s6, st, turnC, bindT, look, res, frz, lend, resAll, giveBack, hW.io, t3, sem2, semEq, eqD, pre2, wipeR, hp])
  obtain ⟨es, rfl, hes⟩ := all_nats q3
  have hel : es.length ≤ N := by
    rw [rangeD_len] at q2
    unfold nats at q2
    rw [List.length_map] at q2
    exact q2
  refine ⟨⟨cs, tb, es⟩, row3, ?_, rfl, by show 0 < tb.length; omega, by show (tb.length : Int) ≤ m; omega, fun r hr => ?_, by show es.length ≤ tb.length; omega, fun x hx => ?_, h3⟩
  · refine runD_val (r := (st row3 tb).set 6 (some ⟨.tup (nats es), .fz⟩)) rfl ?_ rfl
    refine (runB_next (r' := [some ⟨r1, .io⟩, some ⟨tx cs, .fz⟩, some ⟨.int m, .fz⟩, some ⟨.int (N : Nat), .fz⟩, none, none, none, none, none]) ?_).trans ?_
    · simp [startR, d_law_machine, look, res, frz, lend, resAll, giveBack, hW.io, t1, sem2, semAdd, pre2, hN, store]
    refine (runB_next (r' := [some ⟨r1, .io⟩, some ⟨tx cs, .fz⟩, some ⟨.int m, .fz⟩, some ⟨.int (N : Nat), .fz⟩, some ⟨.lst [], .own⟩, none, none, none, none]) ?_).trans ?_
    · simp [store]
    refine (runB_next (r' := st row2 tb) ?_).trans ?_
    · have src : runI W (.rng1 (.var 3)) [some ⟨r1, .io⟩, some ⟨tx cs, .fz⟩, some ⟨.int m, .fz⟩, some ⟨.int (N : Nat), .fz⟩, some ⟨.lst [], .own⟩, none, none, none, none] = some (rangeD 0 N, [some ⟨r1, .io⟩, some ⟨tx cs, .fz⟩, some ⟨.int m, .fz⟩, some ⟨.int (N : Nat), .fz⟩, some ⟨.lst [], .own⟩, none, none, none, none]) := by
        have := small_line (n := N) (by omega)
        simp [runI_rng1, look, res]
        omega
      rw [runS_for, src]
      exact lp
    refine (runB_next (r' := (st row3 tb).set 6 (some ⟨.tup (nats es), .fz⟩)) ?_).trans ?_
    · have src : runI W (.rng1 (.var 3)) (st row2 tb) = some (rangeD 0 N, st row2 tb) := by
        have := small_line (n := N) (by omega)
        simp [st, runI_rng1, look, res]
        omega
      have tp : semTuple (.lst (nats es)) = some (.val (.tup (nats es))) := rfl
      have e : Dl.run W (.comp [5] (.name 5) (.rng1 (.var 3)) (.yes (.cmp .eq (.call "_law_take" (.cons (.var 0) (.cons (.int 3) .nil))) (.int 0))) (.var 5)) (st row2 tb) = some (.fresh (.lst (nats es)), st row3 tb) := by
        rw [run_comp, src]
        show Option.bind (compD _ _ (s6 row2)) _ = _
        rw [q1]
        simp [s6, st, back, look]
      rw [runS_set, run_op1, e]
      simp [res, sem1, tp, store, st]
    · refine runB_ret ?_
      have tp : semTuple (.lst (rowsD tb)) = some (.val (.tup (rowsD tb))) := rfl
      simp [st, look, res, frz, sem1, tp]
      rfl
  · obtain ⟨h1, h2⟩ := htb r hr
    exact ⟨h1, fun x hx => by have := h2 x hx; show x < tb.length; omega⟩
  · have := hes x hx
    show x < tb.length
    omega
end Dq

namespace K
open PySem PySem.Spec PyProof.Rows L2 Dl
/-! ### the text as terms of the small language (printed by gen.py) -/
def d_with_both : Df := { N := ["machine", "one", "other", "words", "order", "at", "letters", "table", "ends", "here", "state", "first", "second", "sign", "further", "there"], ps := 3, io := none, body :=
    (.cons (.unp [6, 7, 8] (.var 0))
    (.cons (.set 3 (.dct (.cons (.tup (.cons (.int 0) (.cons (.bl false) (.cons (.bl false) .nil)))) (.cons (.str "") .nil))))
    (.cons (.set 4 (.op1 .list (.var 3)))
    (.cons (.set 5 (.int 0))
    (.cons (.whl (.cmp .lt (.var 5) (.op1 .len (.var 4))) (.cons (.set 9 (.op2 .at (.var 4) (.var 5)))
    (.cons (.unp [10, 11, 12] (.var 9))
    (.cons (.ife (.and (.cmp .isIn (.var 10) (.var 8)) (.and (.val (.var 11)) (.val (.var 12)))) (.cons (.ret (.op2 .at (.var 3) (.var 9)))
    .nil) .nil)
    (.cons (.for_ (.tup [13, 14]) (.zip (.cons (.var 6) (.cons (.op2 .at (.var 7) (.var 10)) .nil))) (.cons (.set 15 (.tup (.cons (.var 14) (.cons (.or (.var 11) (.op2 .eq (.var 13) (.var 1))) (.cons (.or (.var 12) (.op2 .eq (.var 13) (.var 2))) .nil)))))
    (.cons (.ife (.cmp .notIn (.var 15) (.var 3)) (.cons (.setAt 3 (.var 15) (.op2 .add (.op2 .at (.var 3) (.var 9)) (.var 13)))
    (.cons (.expr (.app 4 (.var 15)))
    .nil)) .nil)
    .nil)) [0, 10, 13, 14, 15])
    (.cons (.aug 5 .add (.int 1))
    .nil))))) [0, 9, 10, 11, 12, 13, 14, 15])
    (.cons (.ret .non)
    .nil)))))) }
def d_law_draws : Df := { N := ["script", "draws", "k", "rest", "stir", "many"], ps := 1, io := none, body :=
    (.cons (.set 1 (.lst .nil))
    (.cons (.for_ (.name 2) (.rng1 (.op2 .min2 (.op1 .len (.var 0)) (.int 80))) (.cons (.set 3 (.op1 .abs (.op2 .at (.var 0) (.var 2))))
    (.cons (.ife (.cmp .lt (.var 3) (.op2 .pow (.int 10) (.int 18))) (.cons (.set 4 (.op2 .mod (.op2 .mul (.op2 .mod (.op2 .add (.op2 .add (.var 3) (.op2 .mul (.int 7919) (.var 2))) (.int 3)) (.int 2147483647)) (.int 48271)) (.int 2147483647)))
    (.cons (.set 4 (.op2 .mod (.op2 .mul (.var 4) (.var 4)) (.int 2147483629)))
    (.cons (.expr (.app 1 (.op2 .mod (.op2 .div (.var 4) (.int 16)) (.int 1000))))
    (.cons (.expr (.app 1 (.op2 .mod (.op2 .div (.var 4) (.int 16000)) (.int 1000))))
    (.cons (.set 4 (.op2 .mod (.op2 .add (.var 4) (.op2 .mul (.int 40692) (.op2 .add (.var 2) (.int 7)))) (.int 2147483587)))
    (.cons (.expr (.app 1 (.op2 .mod (.op2 .div (.op2 .mod (.op2 .mul (.var 4) (.var 4)) (.int 2147483647)) (.int 16)) (.int 1000))))
    .nil)))))) (.cons (.set 5 (.int 0))
    (.cons (.whl (.and (.cmp .ge (.var 3) (.int 1000)) (.cmp .lt (.var 5) (.int 60))) (.cons (.expr (.app 1 (.op2 .mod (.var 3) (.int 1000))))
    (.cons (.set 3 (.op2 .div (.var 3) (.int 1000)))
    (.cons (.set 5 (.op2 .add (.var 5) (.int 1)))
    .nil))) [2, 4])
    .nil)))
    .nil)) [2, 3, 4, 5])
    (.cons (.ret (.cut (.var 1) .no (.yes (.int 240))))
    .nil))) }
def d_law_take : Df := { N := ["draws", "many"], ps := 2, io := some 0, body :=
    (.cons (.ife (.cmp .eq (.var 0) (.lst .nil)) (.cons (.ret (.int 0))
    .nil) .nil)
    (.cons (.ret (.op2 .mod (.pop 0 (.int 0)) (.var 1)))
    .nil)) }
def d_law_letters : Df := { N := ["draws", "most", "some", "many", "found", "k"], ps := 2, io := some 0, body :=
    (.cons (.set 2 (.op1 .list (.step (.str "abcdefghijklmnopqrstuvwxyz") .no (.op2 .at (.lst (.cons (.int 1) (.cons (.int 5) .nil))) (.call "_law_take" (.cons (.var 0) (.cons (.int 2) .nil)))))))
    (.cons (.set 3 (.op2 .add (.int 1) (.call "_law_take" (.cons (.var 0) (.cons (.var 1) .nil)))))
    (.cons (.set 4 (.lst .nil))
    (.cons (.for_ (.name 5) (.rng1 (.var 3)) (.cons (.expr (.app 4 (.pop 2 (.op2 .at (.lst (.cons (.int 0) (.cons (.call "_law_take" (.cons (.var 0) (.cons (.op1 .len (.var 2)) .nil))) .nil))) (.call "_law_take" (.cons (.var 0) (.cons (.int 2) .nil)))))))
    .nil) [1, 3, 5])
    (.cons (.ret (.op2 .join (.str "") (.op1 .sorted (.var 4))))
    .nil))))) }
def d_law_machine : Df := { N := ["draws", "letters", "most", "many", "table", "k", "ends", "row", "letter"], ps := 3, io := some 0, body :=
    (.cons (.set 3 (.op2 .add (.int 1) (.call "_law_take" (.cons (.var 0) (.cons (.var 2) .nil)))))
    (.cons (.set 4 (.lst .nil))
    (.cons (.for_ (.name 5) (.rng1 (.var 3)) (.cons (.set 7 (.comp [8] (.name 8) (.seq (.var 1)) .no (.op2 .at (.lst (.cons (.call "_law_take" (.cons (.var 0) (.cons (.var 3) .nil))) (.cons (.op2 .min2 (.op2 .sub (.var 3) (.int 1)) (.op2 .add (.var 5) (.int 1))) .nil))) (.call "_law_take" (.cons (.var 0) (.cons (.int 2) .nil))))))
    (.cons (.expr (.app 4 (.op1 .tuple (.var 7))))
    .nil)) [2, 5, 6, 7, 8])
    (.cons (.set 6 (.op1 .tuple (.comp [5] (.name 5) (.rng1 (.var 3)) (.yes (.cmp .eq (.call "_law_take" (.cons (.var 0) (.cons (.int 3) .nil))) (.int 0))) (.var 5))))
    (.cons (.ret (.tup (.cons (.var 1) (.cons (.op1 .tuple (.var 4)) (.cons (.var 6) .nil)))))
    .nil))))) }
def d_law_has : Df := { N := ["machine", "word", "state", "sign"], ps := 2, io := none, body :=
    (.cons (.set 2 (.int 0))
    (.cons (.for_ (.name 3) (.seq (.var 1)) (.cons (.set 2 (.op2 .at (.op2 .at (.op2 .at (.var 0) (.int 1)) (.var 2)) (.op2 .index (.op2 .at (.var 0) (.int 0)) (.var 3))))
    .nil) [1, 3])
    (.cons (.ret (.op2 .isIn (.var 2) (.op2 .at (.var 0) (.int 2))))
    .nil))) }
def d_law_first_with : Df := { N := ["machine", "one", "other", "words", "line", "at", "letters", "table", "ends", "k", "state", "seen", "more", "there"], ps := 3, io := none, body :=
    (.cons (.unp [6, 7, 8] (.var 0))
    (.cons (.set 3 (.dct (.cons (.tup (.cons (.int 0) (.cons (.int 0) .nil))) (.cons (.str "") .nil))))
    (.cons (.set 4 (.lst (.cons (.tup (.cons (.int 0) (.cons (.int 0) .nil))) .nil)))
    (.cons (.set 5 (.int 0))
    (.cons (.whl (.cmp .lt (.var 5) (.op1 .len (.var 4))) (.cons (.unp [10, 11] (.op2 .at (.var 4) (.var 5)))
    (.cons (.ife (.and (.cmp .isIn (.var 10) (.var 8)) (.cmp .eq (.var 11) (.int 3))) (.cons (.ret (.op2 .at (.var 3) (.op2 .at (.var 4) (.var 5))))
    .nil) .nil)
    (.cons (.for_ (.name 9) (.rng1 (.op1 .len (.var 6))) (.cons (.set 12 (.op2 .add (.op1 .int (.op2 .eq (.op2 .at (.var 6) (.var 9)) (.var 1))) (.op2 .mul (.int 2) (.op1 .int (.op2 .eq (.op2 .at (.var 6) (.var 9)) (.var 2))))))
    (.cons (.set 13 (.tup (.cons (.op2 .at (.op2 .at (.var 7) (.var 10)) (.var 9)) (.cons (.op2 .bor (.var 11) (.var 12)) .nil))))
    (.cons (.ife (.cmp .notIn (.var 13) (.var 3)) (.cons (.setAt 3 (.var 13) (.op2 .add (.op2 .at (.var 3) (.op2 .at (.var 4) (.var 5))) (.op2 .at (.var 6) (.var 9))))
    (.cons (.expr (.app 4 (.var 13)))
    .nil)) .nil)
    .nil))) [0, 9, 12, 13])
    (.cons (.set 5 (.op2 .add (.var 5) (.int 1)))
    .nil)))) [0, 9, 10, 11, 12, 13])
    (.cons (.ret .non)
    .nil)))))) }
def d_law_far_machine : Df := { N := ["draws", "letters", "one", "other", "many", "spots", "table", "k", "row", "letter", "on"], ps := 4, io := some 0, body :=
    (.cons (.set 4 (.op2 .add (.int 15) (.call "_law_take" (.cons (.var 0) (.cons (.int 46) .nil)))))
    (.cons (.set 5 (.lst (.cons (.call "_law_take" (.cons (.var 0) (.cons (.op2 .sub (.var 4) (.int 2)) .nil))) (.cons (.call "_law_take" (.cons (.var 0) (.cons (.op2 .sub (.var 4) (.int 2)) .nil))) .nil))))
    (.cons (.set 6 (.lst .nil))
    (.cons (.for_ (.name 7) (.rng1 (.op2 .sub (.var 4) (.int 1))) (.cons (.set 8 (.lst .nil))
    (.cons (.for_ (.name 9) (.seq (.var 1)) (.cons (.set 10 (.and (.op2 .notIn (.var 9) (.tup (.cons (.var 2) (.cons (.var 3) .nil)))) (.op2 .notIn (.var 7) (.var 5))))
    (.cons (.set 10 (.or (.var 10) (.or (.and (.op2 .eq (.var 9) (.var 2)) (.op2 .eq (.var 7) (.op2 .at (.var 5) (.int 0)))) (.and (.op2 .eq (.var 9) (.var 3)) (.op2 .eq (.var 7) (.op2 .at (.var 5) (.int 1)))))))
    (.cons (.expr (.app 8 (.op2 .at (.lst (.cons (.op2 .sub (.var 4) (.int 1)) (.cons (.op2 .add (.var 7) (.int 1)) .nil))) (.op1 .int (.var 10)))))
    .nil))) [9, 10])
    (.cons (.expr (.app 6 (.op1 .tuple (.var 8))))
    .nil))) [7, 8, 9, 10])
    (.cons (.expr (.app 6 (.op2 .mul (.tup (.cons (.op2 .sub (.var 4) (.int 1)) .nil)) (.op1 .len (.var 1)))))
    (.cons (.ret (.tup (.cons (.var 1) (.cons (.op1 .tuple (.var 6)) (.cons (.tup (.cons (.op2 .sub (.var 4) (.int 2)) .nil)) .nil)))))
    .nil)))))) }
def d_law : Df := { N := ["script", "draws", "many", "letters", "machine", "at", "one", "other", "due", "found"], ps := 1, io := none, body :=
    (.cons (.set 1 (.call "_law_draws" (.cons (.var 0) .nil)))
    (.cons (.set 2 (.int 0))
    (.cons (.whl (.or (.cmp .lt (.var 2) (.int 1)) (.and (.cmp .ne (.var 1) (.lst .nil)) (.cmp .lt (.var 2) (.int 8)))) (.cons (.set 3 (.call "_law_letters" (.cons (.var 1) (.cons (.int 5) .nil))))
    (.cons (.ife (.cmp .eq (.op1 .len (.var 3)) (.int 1)) (.cons (.set 3 (.op2 .at (.lst (.cons (.str "ab") (.cons (.str "mz") .nil))) (.call "_law_take" (.cons (.var 1) (.cons (.int 2) .nil)))))
    .nil) .nil)
    (.cons (.set 4 (.call "_law_machine" (.cons (.var 1) (.cons (.var 3) (.cons (.op2 .at (.lst (.cons (.int 6) (.cons (.int 6) (.cons (.int 6) (.cons (.int 14) .nil))))) (.call "_law_take" (.cons (.var 1) (.cons (.int 4) .nil)))) .nil)))))
    (.cons (.set 5 (.call "_law_take" (.cons (.var 1) (.cons (.op1 .len (.var 3)) .nil))))
    (.cons (.set 6 (.op2 .at (.var 3) (.var 5)))
    (.cons (.set 7 (.op2 .at (.var 3) (.op2 .mod (.op2 .add (.op2 .add (.var 5) (.int 1)) (.call "_law_take" (.cons (.var 1) (.cons (.op2 .sub (.op1 .len (.var 3)) (.int 1)) .nil)))) (.op1 .len (.var 3)))))
    (.cons (.ife (.cmp .eq (.call "_law_take" (.cons (.var 1) (.cons (.int 3) .nil))) (.int 1)) (.cons (.set 4 (.call "_law_far_machine" (.cons (.var 1) (.cons (.var 3) (.cons (.var 6) (.cons (.var 7) .nil))))))
    .nil) .nil)
    (.cons (.set 8 (.call "_law_first_with" (.cons (.var 4) (.cons (.var 6) (.cons (.var 7) .nil)))))
    (.cons (.for_ (.name 9) (.seq (.tup (.cons (.call "with_both" (.cons (.var 4) (.cons (.var 6) (.cons (.var 7) .nil)))) (.cons (.call "with_both" (.cons (.var 4) (.cons (.var 7) (.cons (.var 6) .nil)))) .nil)))) (.cons (.ife (.or (.cmp .ne (.var 9) (.var 8)) (.cmp .ne (.op2 .is (.var 9) .non) (.op2 .is (.var 8) .non))) (.cons (.ret (.bl false))
    .nil) .nil)
    .nil) [0, 3, 4, 5, 6, 7, 9])
    (.cons (.set 2 (.op2 .add (.var 2) (.int 1)))
    .nil)))))))))) [0, 3, 4, 5, 6, 7, 8, 9])
    (.cons (.ret (.bl true))
    .nil)))) }
def TT : List (Str × Df) := [("with_both", d_with_both),
  ("_law_draws", d_law_draws),
  ("_law_take", d_law_take),
  ("_law_letters", d_law_letters),
  ("_law_machine", d_law_machine),
  ("_law_has", d_law_has),
  ("_law_first_with", d_law_first_with),
  ("_law_far_machine", d_law_far_machine),
  ("law", d_law)]
def topS (i : Nat) : Stmt := PySem.Challenge.pw_likehands_k78_words_with_both.main.body.getD i (.Pass ⟨0, 0, 0, 0⟩)
abbrev s_with_both : Stmt := topS 1
abbrev s_law_draws : Stmt := topS 3
abbrev s_law_take : Stmt := topS 4
abbrev s_law_letters : Stmt := topS 5
abbrev s_law_machine : Stmt := topS 6
abbrev s_law_has : Stmt := topS 7
abbrev s_law_first_with : Stmt := topS 8
abbrev s_law_far_machine : Stmt := topS 9
abbrev s_law : Stmt := topS 10
theorem ck_with_both : chkB ⟨d_with_both.N, defScope s_with_both, defScope s_with_both, proN d_with_both.io, TT⟩ d_with_both.body (defBody s_with_both) = true := by decide +kernel
theorem sc_with_both : FnScope d_with_both.N (d_with_both.N.take d_with_both.ps) (defScope s_with_both) := ⟨rfl, rfl, rfl, by decide +kernel, rfl, by decide +kernel, by decide +kernel⟩
theorem ck_law_draws : chkB ⟨d_law_draws.N, defScope s_law_draws, defScope s_law_draws, proN d_law_draws.io, TT⟩ d_law_draws.body (defBody s_law_draws) = true := by decide +kernel
theorem sc_law_draws : FnScope d_law_draws.N (d_law_draws.N.take d_law_draws.ps) (defScope s_law_draws) := ⟨rfl, rfl, rfl, by decide +kernel, rfl, by decide +kernel, by decide +kernel⟩
theorem ck_law_take : chkB ⟨d_law_take.N, defScope s_law_take, defScope s_law_take, proN d_law_take.io, TT⟩ d_law_take.body (defBody s_law_take) = true := by decide +kernel
theorem sc_law_take : FnScope d_law_take.N (d_law_take.N.take d_law_take.ps) (defScope s_law_take) := ⟨rfl, rfl, rfl, by decide +kernel, rfl, by decide +kernel, by decide +kernel⟩
theorem ck_law_letters : chkB ⟨d_law_letters.N, defScope s_law_letters, defScope s_law_letters, proN d_law_letters.io, TT⟩ d_law_letters.body (defBody s_law_letters) = true := by decide +kernel
theorem sc_law_letters : FnScope d_law_letters.N (d_law_letters.N.take d_law_letters.ps) (defScope s_law_letters) := ⟨rfl, rfl, rfl, by decide +kernel, rfl, by decide +kernel, by decide +kernel⟩
theorem ck_law_machine : chkB ⟨d_law_machine.N, defScope s_law_machine, defScope s_law_machine, proN d_law_machine.io, TT⟩ d_law_machine.body (defBody s_law_machine) = true := by decide +kernel
theorem sc_law_machine : FnScope d_law_machine.N (d_law_machine.N.take d_law_machine.ps) (defScope s_law_machine) := ⟨rfl, rfl, rfl, by decide +kernel, rfl, by decide +kernel, by decide +kernel⟩
theorem ck_law_has : chkB ⟨d_law_has.N, defScope s_law_has, defScope s_law_has, proN d_law_has.io, TT⟩ d_law_has.body (defBody s_law_has) = true := by decide +kernel
theorem sc_law_has : FnScope d_law_has.N (d_law_has.N.take d_law_has.ps) (defScope s_law_has) := ⟨rfl, rfl, rfl, by decide +kernel, rfl, by decide +kernel, by decide +kernel⟩
theorem ck_law_first_with : chkB ⟨d_law_first_with.N, defScope s_law_first_with, defScope s_law_first_with, proN d_law_first_with.io, TT⟩ d_law_first_with.body (defBody s_law_first_with) = true := by decide +kernel
theorem sc_law_first_with : FnScope d_law_first_with.N (d_law_first_with.N.take d_law_first_with.ps) (defScope s_law_first_with) := ⟨rfl, rfl, rfl, by decide +kernel, rfl, by decide +kernel, by decide +kernel⟩
theorem ck_law_far_machine : chkB ⟨d_law_far_machine.N, defScope s_law_far_machine, defScope s_law_far_machine, proN d_law_far_machine.io, TT⟩ d_law_far_machine.body (defBody s_law_far_machine) = true := by decide +kernel
theorem sc_law_far_machine : FnScope d_law_far_machine.N (d_law_far_machine.N.take d_law_far_machine.ps) (defScope s_law_far_machine) := ⟨rfl, rfl, rfl, by decide +kernel, rfl, by decide +kernel, by decide +kernel⟩
theorem ck_law : chkB ⟨d_law.N, defScope s_law, defScope s_law, proN d_law.io, TT⟩ d_law.body (defBody s_law) = true := by decide +kernel
theorem sc_law : FnScope d_law.N (d_law.N.take d_law.ps) (defScope s_law) := ⟨rfl, rfl, rfl, by decide +kernel, rfl, by decide +kernel, by decide +kernel⟩
end K

namespace K
open PySem PySem.Spec PyProof.Rows L2 Dl Dw Ds Dq
/-! ### the ways through a machine, with which of two letters were read -/
structure McOk (M : Mc) : Prop where
  l1 : 1 ≤ M.cs.length
  l5 : M.cs.length ≤ 5
  t1 : 1 ≤ M.tb.length
  t60 : M.tb.length ≤ 60
  rows : ∀ r ∈ M.tb, r.length = M.cs.length ∧ ∀ x ∈ r, x < M.tb.length
  few : M.es.length ≤ 60
  low : ∀ c ∈ M.cs, Low c
abbrev Key := Nat × Bool × Bool
abbrev Ln := List (Key × List Nat)
section
variable (M : Mc) (a b : Nat)
def go (k : Key) (j : Nat) : Key := ((M.tb.getD k.1 []).getD j 0, k.2.1 || decide (M.cs.getD j 0 = a), k.2.2 || decide (M.cs.getD j 0 = b))
def put (here : Key) (w : List Nat) (L : Ln) (j : Nat) : Ln := if go M a b here j ∈ L.map (·.1) then L else L ++ [(go M a b here j, w ++ [M.cs.getD j 0])]
def puts (here : Key) (w : List Nat) (n : Nat) (L : Ln) : Ln := (List.range n).foldl (put M a b here w) L
theorem puts_succ (here : Key) (w : List Nat) (n : Nat) (L : Ln) : puts M a b here w (n + 1) L = put M a b here w (puts M a b here w n L) n := by
  unfold puts
  rw [List.range_succ, List.foldl_append]
  rfl
def fnl (k : Key) : Bool := decide (k.1 ∈ M.es) && (k.2.1 && k.2.2)
def bfs : Nat → Nat → Ln → Option (Option (List Nat))
  | 0, _, _ => none
  | F + 1, i, L => match L[i]? with
    | none => some none
    | some (k, w) => if fnl M k = true then some (some w) else bfs F (i + 1) (puts M a b k w M.cs.length L)
end
structure Good (M : Mc) (L : Ln) : Prop where
  nd : (L.map (·.1)).Nodup
  lt : ∀ p ∈ L, p.1.1 < M.tb.length
  len : ∀ (j : Nat) (p : Key × List Nat), L[j]? = some p → p.2.length ≤ j
theorem go_lt {M : Mc} (ok : McOk M) {a b j : Nat} {k : Key} (hk : k.1 < M.tb.length) (hj : j < M.cs.length) : (go M a b k j).1 < M.tb.length := by
  show (M.tb.getD k.1 []).getD j 0 < _
  have e : M.tb.getD k.1 [] = M.tb[k.1] := by rw [List.getD_eq_getElem?_getD, List.getElem?_eq_getElem hk]; rfl
  rw [e]
  obtain ⟨h1, h2⟩ := ok.rows _ (List.getElem_mem hk)
  rw [List.getD_eq_getElem?_getD, List.getElem?_eq_getElem (by omega)]
  exact h2 _ (List.getElem_mem _)
theorem put_len {M : Mc} {a b : Nat} {here : Key} {w : List Nat} {L : Ln} {j : Nat} : L.length ≤ (put M a b here w L j).length := by
  unfold put
  split
  · exact Nat.le_refl _
  · rw [List.length_append]; omega
theorem put_get {M : Mc} {a b : Nat} {here : Key} {w : List Nat} {L : Ln} {j i : Nat} {p : Key × List Nat} (h : L[i]? = some p) : (put M a b here w L j)[i]? = some p := by
  unfold put
  split
  · exact h
  · rw [List.getElem?_append_left (List.getElem?_eq_some_iff.mp h).1]; exact h
theorem Good.put {M : Mc} (ok : McOk M) {a b : Nat} {here : Key} {w : List Nat} {L : Ln} {j i : Nat} (g : Good M L) (hk : here.1 < M.tb.length) (hj : j < M.cs.length) (hw : w.length ≤ i) (hi : i < L.length) : Good M (put M a b here w L j) := by
  unfold K.put
  split
  · exact g
  · rename_i h
    refine ⟨?_, fun p hp => ?_, fun k p hp => ?_⟩
    · rw [List.map_append, List.nodup_append]
      refine ⟨g.nd, by simp, fun x hx y hy e => ?_⟩
      rw [List.mem_singleton.mp (show y ∈ [go M a b here j] from hy)] at e
      rw [e] at hx
      exact h hx
    · rcases List.mem_append.mp hp with hp | hp
      · exact g.lt p hp
      · rw [List.mem_singleton.mp hp]
        exact go_lt ok hk hj
    · by_cases hk' : k < L.length
      · rw [List.getElem?_append_left hk'] at hp
        exact g.len k p hp
      · rw [List.getElem?_append_right (by omega)] at hp
        have h0 : k - L.length = 0 := by
          have := (List.getElem?_eq_some_iff.mp hp).1
          rw [List.length_singleton] at this
          omega
        rw [h0] at hp
        cases hp
        show (w ++ [_]).length ≤ k
        rw [List.length_append, List.length_singleton]
        omega
theorem puts_ok {M : Mc} (ok : McOk M) {a b : Nat} {here : Key} {w : List Nat} {i : Nat} (hk : here.1 < M.tb.length) (hw : w.length ≤ i) {L : Ln} (g : Good M L) (hi : L[i]? = some (here, w)) : ∀ n, n ≤ M.cs.length → Good M (puts M a b here w n L) ∧ L.length ≤ (puts M a b here w n L).length ∧ (puts M a b here w n L)[i]? = some (here, w)
  | 0, _ => ⟨g, Nat.le_refl _, hi⟩
  | n + 1, hn => by
    obtain ⟨g1, l1, h1⟩ := puts_ok ok hk hw g hi n (by omega)
    rw [puts_succ]
    have hl := (List.getElem?_eq_some_iff.mp h1).1
    exact ⟨g1.put ok hk (by omega) hw hl, Nat.le_trans l1 put_len, put_get h1⟩
/-! ### there are not so many -/
theorem nodup_le : ∀ (m : Nat) (l : List Nat), l.Nodup → (∀ x ∈ l, x < m) → l.length ≤ m
  | 0, l, _, h => by
    cases l with
    | nil => exact Nat.le_refl _
    | cons a l => exact absurd (h a List.mem_cons_self) (Nat.not_lt_zero _)
  | m + 1, l, nd, h => by
    have h1 := nodup_le m (l.filter fun x => decide (x ≠ m)) (nd.sublist List.filter_sublist) (fun x hx => by
      have h2 := h x (List.mem_filter.mp hx).1
      have h3 := of_decide_eq_true (List.mem_filter.mp hx).2
      omega)
    have h2 : l.length ≤ (l.filter fun x => decide (x ≠ m)).length + 1 := by
      clear h1 h
      induction l with
      | nil => exact Nat.zero_le _
      | cons a l ih =>
        rw [List.nodup_cons] at nd
        by_cases e : a = m
        · subst e
          have hf : (l.filter fun x => decide (x ≠ a)) = l := List.filter_eq_self.mpr fun x hx => decide_eq_true fun z => nd.1 (z ▸ hx)
          rw [List.filter_cons, if_neg (by simp), hf, List.length_cons]
          exact Nat.le_refl _
        · have := ih nd.2
          rw [List.filter_cons, if_pos (by simpa using e), List.length_cons, List.length_cons]
          omega
    omega
def code (k : Key) : Nat := k.1 * 4 + ((if k.2.1 = true then 1 else 0) + (if k.2.2 = true then 2 else 0))
theorem code_inj {k l : Key} (h : code k = code l) : k = l := by
  obtain ⟨s, f, g⟩ := k
  obtain ⟨t, f', g'⟩ := l
  unfold code at h
  cases f <;> cases g <;> cases f' <;> cases g' <;> simp at h ⊢ <;> omega
theorem Good.few {M : Mc} {L : Ln} (g : Good M L) : L.length ≤ M.tb.length * 4 := by
  have h := nodup_le (M.tb.length * 4) ((L.map (·.1)).map code) ?_ ?_
  · rw [List.length_map, List.length_map] at h
    exact h
  · have nd := g.nd
    generalize L.map (·.1) = l at nd
    induction l with
    | nil => exact List.nodup_nil
    | cons a l ih =>
      rw [List.nodup_cons] at nd
      rw [List.map_cons, List.nodup_cons]
      refine ⟨fun hm => ?_, ih nd.2⟩
      obtain ⟨c, hc, e⟩ := List.mem_map.mp hm
      rw [code_inj e] at hc
      exact nd.1 hc
  · intro x hx
    obtain ⟨k, hk, rfl⟩ := List.mem_map.mp hx
    obtain ⟨p, hp, rfl⟩ := List.mem_map.mp hk
    have := g.lt p hp
    obtain ⟨⟨s, f, f'⟩, w⟩ := p
    have this : s < M.tb.length := this
    unfold code
    cases f <;> cases f' <;> simp <;> omega
theorem bfs_ends {M : Mc} (ok : McOk M) {a b : Nat} : ∀ (F i : Nat) (L : Ln), Good M L → i ≤ L.length → M.tb.length * 4 < i + F → ∃ o, bfs M a b F i L = some o
  | 0, i, L, g, hi, hf => absurd g.few (by omega)
  | F + 1, i, L, g, hi, hf => by
    unfold bfs
    cases h : L[i]? with
    | none => exact ⟨_, rfl⟩
    | some p =>
      obtain ⟨k, w⟩ := p
      dsimp only
      split
      · exact ⟨_, rfl⟩
      · have hl := (List.getElem?_eq_some_iff.mp h).1
        obtain ⟨g1, l1, _⟩ := puts_ok ok (a := a) (b := b) (here := k) (w := w) (g.lt (k, w) (List.mem_of_getElem? h)) (g.len i _ h) g h M.cs.length (Nat.le_refl _)
        exact bfs_ends ok F (i + 1) _ g1 (by omega) (by omega)
/-! ### the letters the other way about -/
def swK (k : Key) : Key := (k.1, k.2.2, k.2.1)
def swp (p : Key × List Nat) : Key × List Nat := (swK p.1, p.2)
theorem swK_inj {k l : Key} (h : swK k = swK l) : k = l := by
  obtain ⟨s, f, g⟩ := k
  obtain ⟨t, f', g'⟩ := l
  have h : (s, g, f) = (t, g', f') := h
  cases h
  rfl
theorem go_sw (M : Mc) (a b : Nat) (k : Key) (j : Nat) : go M b a (swK k) j = swK (go M a b k j) := rfl
theorem put_sw (M : Mc) (a b : Nat) (k : Key) (w : List Nat) (L : Ln) (j : Nat) : put M b a (swK k) w (L.map swp) j = (put M a b k w L j).map swp := by
  have hm : swK (go M a b k j) ∈ (L.map swp).map (·.1) ↔ go M a b k j ∈ L.map (·.1) := by
    rw [List.map_map, List.mem_map, List.mem_map]
    constructor
    · rintro ⟨p, hp, e⟩
      exact ⟨p, hp, swK_inj e⟩
    · rintro ⟨p, hp, e⟩
      exact ⟨p, hp, by rw [← e]; rfl⟩
  unfold put
  rw [go_sw]
  by_cases h : go M a b k j ∈ L.map (·.1)
  · rw [if_pos h, if_pos (hm.mpr h)]
  · rw [if_neg h, if_neg (fun z => h (hm.mp z)), List.map_append]
    rfl
theorem puts_sw (M : Mc) (a b : Nat) (k : Key) (w : List Nat) (L : Ln) : ∀ n, puts M b a (swK k) w n (L.map swp) = (puts M a b k w n L).map swp
  | 0 => rfl
  | n + 1 => by rw [puts_succ, puts_succ, puts_sw M a b k w L n, put_sw]
theorem fnl_sw (M : Mc) (k : Key) : fnl M (swK k) = fnl M k := by
  show (decide (k.1 ∈ M.es) && (k.2.2 && k.2.1)) = (decide (k.1 ∈ M.es) && (k.2.1 && k.2.2))
  rw [Bool.and_comm k.2.2]
theorem bfs_sw (M : Mc) (a b : Nat) : ∀ (F i : Nat) (L : Ln), bfs M b a F i (L.map swp) = bfs M a b F i L
  | 0, _, _ => rfl
  | F + 1, i, L => by
    unfold bfs
    rw [List.getElem?_map]
    cases h : L[i]? with
    | none => rfl
    | some p =>
      obtain ⟨k, w⟩ := p
      show (if fnl M (swK k) = true then some (some w) else bfs M b a F (i + 1) (puts M b a (swK k) w M.cs.length (L.map swp))) = _
      rw [fnl_sw, puts_sw, bfs_sw M a b F]
theorem good0 {M : Mc} (ok : McOk M) : Good M [((0, false, false), [])] := by
  refine ⟨by simp, fun p hp => ?_, fun j p hp => ?_⟩
  · rw [List.mem_singleton.mp hp]
    exact ok.t1
  · have : j = 0 := by
      have := (List.getElem?_eq_some_iff.mp hp).1
      rw [List.length_singleton] at this
      omega
    subst this
    cases hp
    exact Nat.le_refl _
end K

namespace K
open PySem PySem.Spec PyProof.Rows L2 Dl Dw Ds Dq
/-! ### the ways as a dict -/
structure Enc (enc : Key → Dat) : Prop where
  isT : ∀ k, ∃ ds, enc k = .tup ds
  tup : ∀ k, tupK (enc k) = true
  eq : ∀ k l, eqK (enc k) (enc l) = decide (k = l)
def dD (enc : Key → Dat) (L : Ln) : Dat := .dct ((L.map (·.1)).map enc) ((L.map (·.2)).map tx)
def lD (enc : Key → Dat) (L : Ln) : Dat := .lst ((L.map (·.1)).map enc)
section
variable {enc : Key → Dat} (he : Enc enc)
include he
theorem okey_enc (l : List Key) (k : Key) : okey (l.map enc) (enc k) = true := by
  unfold okey
  have h : (l.map enc).all tupK = true := by
    rw [List.all_eq_true]
    intro d hd
    obtain ⟨x, _, rfl⟩ := List.mem_map.mp hd
    exact he.tup x
  rw [he.tup k, h]
  simp
theorem hasK_enc (k : Key) : ∀ l : List Key, hasK (enc k) (l.map enc) = decide (k ∈ l)
  | [] => rfl
  | x :: l => by
    have ih := hasK_enc k l
    unfold hasK at ih ⊢
    rw [List.map_cons, List.any_cons, ih, he.eq]
    by_cases h : x = k
    · subst h; simp
    · simp [h, Ne.symm h]
theorem notIn_enc (k : Key) (L : Ln) : semNotIn (enc k) (dD enc L) = some (.val (.bl (!decide (k ∈ L.map (·.1))))) := by
  obtain ⟨ds, e⟩ := he.isT k
  have h1 := okey_enc he (L.map (·.1)) k
  have h2 := hasK_enc he k (L.map (·.1))
  unfold semNotIn dD
  have h3 : inD (enc k) (.dct ((L.map (·.1)).map enc) ((L.map (·.2)).map tx)) = some (decide (k ∈ L.map (·.1))) := by
    rw [← h2]
    rw [e] at h1 ⊢
    show (if okey _ (.tup ds) = true then some _ else none) = _
    rw [if_pos h1]
  rw [h3]
  rfl
theorem at_enc {L : Ln} (nd : (L.map (·.1)).Nodup) {i : Nat} {k : Key} {w : List Nat} (h : L[i]? = some (k, w)) : semAt (dD enc L) (enc k) = some (.val (tx w)) := by
  have g : getV (enc k) ((L.map (·.1)).map enc) ((L.map (·.2)).map tx) = some (tx w) := by
    refine getV_at (i := i) (by rw [List.getElem?_map, List.getElem?_map, h]; rfl) (by rw [List.getElem?_map, List.getElem?_map, h]; rfl) (fun j x hj hx => ?_) (by rw [he.eq]; simp)
    rw [List.getElem?_map] at hx
    cases hq : (L.map (·.1))[j]? with
    | none => rw [hq] at hx; cases hx
    | some y =>
      rw [hq] at hx
      cases hx
      rw [he.eq]
      refine decide_eq_false fun z => ?_
      rw [z] at hq
      have h2 : (L.map (·.1))[i]? = some k := by rw [List.getElem?_map, h]; rfl
      have := (List.getElem?_inj (List.getElem?_eq_some_iff.mp h2).1 nd).mp (h2.trans hq.symm)
      omega
  show (if okey _ _ = true then (getV _ _ _).map Out.val else none) = _
  rw [if_pos (okey_enc he _ k), g]
  rfl
theorem put_enc {L : Ln} {k : Key} (w : List Nat) (h : k ∉ L.map (·.1)) : putD (enc k) (tx w) ((L.map (·.1)).map enc) ((L.map (·.2)).map tx) = dD enc (L ++ [(k, w)]) := by
  unfold putD
  rw [hasK_enc he, decide_eq_false h, if_neg Bool.false_ne_true]
  unfold dD
  simp
theorem order_at {L : Ln} {i : Nat} {k : Key} {w : List Nat} (h : L[i]? = some (k, w)) : semAt (lD enc L) (.int (i : Nat)) = some (.val (enc k)) := by
  show (atI _ _).map Out.val = _
  rw [atI_nat (show ((L.map (·.1)).map enc)[i]? = some (enc k) by rw [List.getElem?_map, List.getElem?_map, h]; rfl)]
  rfl
end
theorem lD_len (enc : Key → Dat) (L : Ln) : semLen (lD enc L) = some (.val (.int (L.length : Nat))) := by
  show some (Out.val (.int ((((L.map (·.1)).map enc).length : Nat) : Int))) = _
  rw [List.length_map, List.length_map]
theorem in_nats (s : Nat) (es : List Nat) : semIn (.int (s : Nat)) (.tup (nats es)) = some (.val (.bl (decide (s ∈ es)))) := by
  have fl : (nats es).all flatD = true := by
    rw [List.all_eq_true]
    intro d hd
    obtain ⟨x, _, rfl⟩ := List.mem_map.mp hd
    rfl
  have an : (nats es).any (fun z => feq z (.int (s : Nat))) = decide (s ∈ es) := by
    clear fl
    induction es with
    | nil => rfl
    | cons x es ih =>
      show (feq (.int (x : Nat)) (.int (s : Nat)) || (nats es).any (fun z => feq z (.int (s : Nat)))) = _
      rw [ih]
      have : feq (.int (x : Nat)) (.int (s : Nat)) = decide (x = s) := by
        show (((x : Nat) : Int) == ((s : Nat) : Int)) = decide (x = s)
        by_cases h : x = s
        · simp [h]
        · have : ¬ ((x : Nat) : Int) = (s : Nat) := by omega
          simp [h, this]
      rw [this]
      by_cases h : x = s
      · subst h; simp
      · simp [h, Ne.symm h]
  show ((if flatD (.int (s : Nat)) = true ∧ (nats es).all flatD = true then some ((nats es).any (fun z => feq z (.int (s : Nat)))) else none).map fun b => Out.val (.bl b)) = _
  rw [fl, an, if_pos ⟨rfl, rfl⟩]
  rfl
/-- while, over the ways -/
theorem whl_bfs {M : Mc} (ok : McOk M) {a b : Nat} {t : Rho → Option (Bool × Rho)} {body : Rho → Option Fl} {wp : List Nat} (st : Ln → Nat → Rho) (hwi : ∀ L i, wipeR (st L i) wp = st L i) (h0 : ∀ L i, i ≤ 300 → t (st L i) = some (decide (i < L.length), st L i))
    (h1 : ∀ (L : Ln) (i : Nat) (k : Key) (w : List Nat), Good M L → i ≤ 300 → L[i]? = some (k, w) → fnl M k = true → ∃ r, body (st L i) = some (.ret (.val (tx w)) r) ∧ r.length = (st L i).length)
    (h2 : ∀ (L : Ln) (i : Nat) (k : Key) (w : List Nat), Good M L → i ≤ 300 → L[i]? = some (k, w) → fnl M k = false → ∃ r, body (st L i) = some (.next r) ∧ wipeR r wp = st (puts M a b k w M.cs.length L) (i + 1)) :
    ∀ (F n i : Nat) (L : Ln) (o : Option (List Nat)), Good M L → i ≤ L.length → F ≤ n → bfs M a b F i L = some o → (∀ w, o = some w → (∃ r, whlD t body wp n (st L i) = some (.ret (.val (tx w)) r)) ∧ ∃ (k : Key) (L' : Ln), Good M L' ∧ (k, w) ∈ L') ∧ (o = none → ∃ L' i', whlD t body wp n (st L i) = some (.next (st L' i')))
  | 0, n, i, L, o, _, _, _, h => by unfold bfs at h; cases h
  | F + 1, 0, i, L, o, _, _, hn, _ => absurd hn (by omega)
  | F + 1, n + 1, i, L, o, g, hi, hn, h => by
    have hf := g.few
    have h60 := ok.t60
    have hi3 : i ≤ 300 := by omega
    unfold bfs at h
    have c := h0 L i hi3
    cases e : L[i]? with
    | none =>
      rw [e] at h
      cases h
      have : ¬ i < L.length := fun z => by rw [List.getElem?_eq_getElem z] at e; cases e
      rw [decide_eq_false this] at c
      refine ⟨(fun w z => nomatch z), fun _ => ⟨L, i, ?_⟩⟩
      rw [whlD, c]
      exact congrArg (fun r => some (Fl.next r)) (hwi L i)
    | some p =>
      obtain ⟨k, w⟩ := p
      rw [e] at h
      dsimp only at h
      have hl := (List.getElem?_eq_some_iff.mp e).1
      rw [decide_eq_true hl] at c
      split at h
      · rename_i hfn
        cases h
        obtain ⟨r, hr, _⟩ := h1 L i k w g hi3 e hfn
        refine ⟨fun w' z => ?_, (fun z => nomatch z)⟩
        cases z
        refine ⟨⟨r, ?_⟩, k, L, g, List.mem_of_getElem? e⟩
        rw [whlD, c]
        dsimp only
        rw [hr]
      · rename_i hfn
        obtain ⟨r, hr, hw⟩ := h2 L i k w g hi3 e (by simpa using hfn)
        obtain ⟨g1, l1, _⟩ := puts_ok ok (a := a) (b := b) (here := k) (w := w) (g.lt (k, w) (List.mem_of_getElem? e)) (g.len i _ e) g e M.cs.length (Nat.le_refl _)
        have ih := whl_bfs ok st hwi h0 h1 h2 F n (i + 1) _ o g1 (by omega) (by omega) h
        rw [← hw] at ih
        have eq : whlD t body wp (n + 1) (st L i) = whlD t body wp n (wipeR r wp) := by
          rw [whlD, c]
          dsimp only
          rw [hr]
        rw [eq]
        exact ih
end K

namespace K
open PySem PySem.Spec PyProof.Rows L2 Dl Dw Ds Dq
def enc1 (k : Key) : Dat := .tup [.int (k.1 : Nat), .bl k.2.1, .bl k.2.2]
theorem num_bl (f g : Bool) : (if f = true then (1 : Int) else 0) = (if g = true then 1 else 0) ↔ f = g := by cases f <;> cases g <;> simp
theorem enc1_ok : Enc enc1 where
  isT := fun k => ⟨_, rfl⟩
  tup := fun k => rfl
  eq := fun k l => by
    obtain ⟨s, f, g⟩ := k
    obtain ⟨t, f', g'⟩ := l
    have e : eqK (enc1 (s, f, g)) (enc1 (t, f', g')) = decide (NestedKey.tup [.num (s : Nat), .num (if f = true then 1 else 0), .num (if g = true then 1 else 0)] = NestedKey.tup [.num (t : Nat), .num (if f' = true then 1 else 0), .num (if g' = true then 1 else 0)]) := rfl
    rw [e]
    by_cases h : (s, f, g) = (t, f', g')
    · cases h
      simp
    · rw [decide_eq_false h]
      refine decide_eq_false fun z => h ?_
      injection z with z
      injection z with z1 z
      injection z with z2 z
      injection z with z3 z
      injection z1 with z1
      injection z2 with z2
      injection z3 with z3
      rw [num_bl] at z2 z3
      rw [z2, z3, show s = t by omega]
def bI (b : Bool) : Int := if b = true then 1 else 0
def encL (k : Key) : Dat := .tup [.int (k.1 : Nat), .int (bI k.2.1 + 2 * bI k.2.2)]
theorem encL_ok : Enc encL where
  isT := fun k => ⟨_, rfl⟩
  tup := fun k => rfl
  eq := fun k l => by
    obtain ⟨s, f, g⟩ := k
    obtain ⟨t, f', g'⟩ := l
    have e : eqK (encL (s, f, g)) (encL (t, f', g')) = decide (NestedKey.tup [.num (s : Nat), .num (bI f + 2 * bI g)] = NestedKey.tup [.num (t : Nat), .num (bI f' + 2 * bI g')]) := rfl
    rw [e]
    by_cases h : (s, f, g) = (t, f', g')
    · cases h
      simp
    · rw [decide_eq_false h]
      refine decide_eq_false fun z => h ?_
      injection z with z
      injection z with z1 z
      injection z with z2 z
      injection z1 with z1
      injection z2 with z2
      have hs : s = t := by omega
      cases f <;> cases g <;> cases f' <;> cases g' <;> first | (rw [hs]; done) | (exact absurd z2 (by decide))
theorem bor_ok (f g p q : Bool) : semBor (.int (bI f + 2 * bI g)) (.int (bI p + 2 * bI q)) = some (.val (.int (bI (f || p) + 2 * bI (g || q)))) := by
  have h : Builtin.bitOr (bI f + 2 * bI g) (bI p + 2 * bI q) = bI (f || p) + 2 * bI (g || q) := by
    cases f <;> cases g <;> cases p <;> cases q <;> decide +kernel
  show some (Out.val (.int (Builtin.bitOr _ _))) = _
  rw [h]
theorem zip_get : ∀ (xs ys : List Dat) (j : Nat), (zipD xs ys)[j]? = (match xs[j]?, ys[j]? with | some x, some y => some (.tup [x, y]) | _, _ => none)
  | [], ys, j => by cases ys <;> simp [zipD]
  | x :: xs, [], j => by
    simp only [zipD, List.getElem?_nil]
    cases (x :: xs)[j]? <;> rfl
  | x :: xs, y :: ys, 0 => rfl
  | x :: xs, y :: ys, j + 1 => by
    show (zipD xs ys)[j]? = _
    rw [zip_get xs ys j]
    rfl
theorem zip_len : ∀ (xs ys : List Dat), (zipD xs ys).length = min xs.length ys.length
  | [], ys => by cases ys <;> simp [zipD]
  | x :: xs, [] => by simp [zipD]
  | x :: xs, y :: ys => by
    show (zipD xs ys).length + 1 = _
    rw [zip_len xs ys, List.length_cons, List.length_cons]
    omega
theorem row_at {M : Mc} (ok : McOk M) {s : Nat} (hs : s < M.tb.length) : semAt (.tup (rowsD M.tb)) (.int (s : Nat)) = some (.val (.tup (nats (M.tb.getD s [])))) := by
  show (atI (M.tb.map fun r => Dat.tup (nats r)) _).map Out.val = _
  rw [atI_nat (show (M.tb.map fun r => Dat.tup (nats r))[s]? = some (.tup (nats (M.tb.getD s []))) by
    rw [List.getElem?_map, List.getD_eq_getElem?_getD, List.getElem?_eq_getElem hs]
    rfl)]
  rfl
theorem row_len {M : Mc} (ok : McOk M) {s : Nat} (hs : s < M.tb.length) : (M.tb.getD s []).length = M.cs.length := by
  rw [List.getD_eq_getElem?_getD, List.getElem?_eq_getElem hs]
  exact (ok.rows _ (List.getElem_mem hs)).1
theorem eq_sg (c a : Nat) : semEq (.str (sg c)) (.str (sg a)) = some (.val (.bl (decide (c = a)))) := by
  show some (Out.val (.bl (decide (sg c = sg a)))) = _
  rw [sg_eq]
def resD : Option (List Nat) → Dat
  | none => .non
  | some w => tx w
theorem add_sg {w : List Nat} {c : Nat} (h : w.length ≤ 900) : semAdd (tx w) (.str (sg c)) = some (.val (tx (w ++ [c]))) := add_tx (a := w) (b := [c]) (by show _ + 1 ≤ _; omega)
/-- with_both -/
theorem both_run (W : Wd) {M : Mc} (ok : McOk M) (a b : Nat) {o : Option (List Nat)} (ho : bfs M a b 300 0 [((0, false, false), [])] = some o) :
    runD W 1000000 d_with_both [M.d, .str (sg a), .str (sg b)] = some (.val (resD o), .non) := by
  let st : Ln → Nat → Rho := fun L i => [none, some ⟨.str (sg a), .fz⟩, some ⟨.str (sg b), .fz⟩, some ⟨dD enc1 L, .own⟩, some ⟨lD enc1 L, .own⟩, some ⟨.int (i : Nat), .fz⟩, some ⟨tx M.cs, .fz⟩, some ⟨.tup (rowsD M.tb), .fz⟩, some ⟨.tup (nats M.es), .fz⟩, none, none, none, none, none, none, none]
  let si : Ln → Nat → Key → Rho := fun L i k => [none, some ⟨.str (sg a), .fz⟩, some ⟨.str (sg b), .fz⟩, some ⟨dD enc1 L, .own⟩, some ⟨lD enc1 L, .own⟩, some ⟨.int (i : Nat), .fz⟩, some ⟨tx M.cs, .fz⟩, some ⟨.tup (rowsD M.tb), .fz⟩, some ⟨.tup (nats M.es), .fz⟩, some ⟨enc1 k, .fz⟩, none, some ⟨.bl k.2.1, .fz⟩, some ⟨.bl k.2.2, .fz⟩, none, none, none]
  let s9 : Ln → Nat → Key → Rho := fun L i k => [none, some ⟨.str (sg a), .fz⟩, some ⟨.str (sg b), .fz⟩, some ⟨dD enc1 L, .own⟩, some ⟨lD enc1 L, .own⟩, some ⟨.int (i : Nat), .fz⟩, some ⟨tx M.cs, .fz⟩, some ⟨.tup (rowsD M.tb), .fz⟩, some ⟨.tup (nats M.es), .fz⟩, some ⟨enc1 k, .fz⟩, some ⟨.int (k.1 : Nat), .fz⟩, some ⟨.bl k.2.1, .fz⟩, some ⟨.bl k.2.2, .fz⟩, none, none, none]
  let inner : Ss := (.cons (.set 15 (.tup (.cons (.var 14) (.cons (.or (.var 11) (.op2 .eq (.var 13) (.var 1))) (.cons (.or (.var 12) (.op2 .eq (.var 13) (.var 2))) .nil)))))
    (.cons (.ife (.cmp .notIn (.var 15) (.var 3)) (.cons (.setAt 3 (.var 15) (.op2 .add (.op2 .at (.var 3) (.var 9)) (.var 13)))
    (.cons (.expr (.app 4 (.var 15)))
    .nil)) .nil)
    .nil))
  let body : Ss := (.cons (.set 9 (.op2 .at (.var 4) (.var 5)))
    (.cons (.unp [10, 11, 12] (.var 9))
    (.cons (.ife (.and (.cmp .isIn (.var 10) (.var 8)) (.and (.val (.var 11)) (.val (.var 12)))) (.cons (.ret (.op2 .at (.var 3) (.var 9)))
    .nil) .nil)
    (.cons (.for_ (.tup [13, 14]) (.zip (.cons (.var 6) (.cons (.op2 .at (.var 7) (.var 10)) .nil))) inner [0, 10, 13, 14, 15])
    (.cons (.aug 5 .add (.int 1))
    .nil)))))
  have head : ∀ (L : Ln) (i : Nat) (k : Key) (w : List Nat), L[i]? = some (k, w) → ∀ ss, runB W 1000000 (.cons (.set 9 (.op2 .at (.var 4) (.var 5))) (.cons (.unp [10, 11, 12] (.var 9)) ss)) (st L i) = runB W 1000000 ss (s9 L i k) := by
    intro L i k w h ss
    have e := order_at enc1_ok h
    refine (runB_next (r' := [none, some ⟨.str (sg a), .fz⟩, some ⟨.str (sg b), .fz⟩, some ⟨dD enc1 L, .own⟩, some ⟨lD enc1 L, .own⟩, some ⟨.int (i : Nat), .fz⟩, some ⟨tx M.cs, .fz⟩, some ⟨.tup (rowsD M.tb), .fz⟩, some ⟨.tup (nats M.es), .fz⟩, some ⟨enc1 k, .fz⟩, none, none, none, none, none, none]) ?_).trans (runB_next ?_)
    · simp [st, look, res, frz, sem2, pre2, e, store]
    · simp [s9, look, res, frz, enc1, Dl.putAll]
  have tst : ∀ (L : Ln) (i : Nat) (k : Key), runT W (.and (.cmp .isIn (.var 10) (.var 8)) (.and (.val (.var 11)) (.val (.var 12)))) (s9 L i k) = some (fnl M k, s9 L i k) := by
    intro L i k
    have e := in_nats k.1 M.es
    obtain ⟨s, f, g⟩ := k
    unfold fnl
    dsimp only at e ⊢
    cases hd : decide (s ∈ M.es) <;> rw [hd] at e <;> cases f <;> cases g <;> simp [s9, look, res, sem2, pre2, e, truthD]
  have key := whl_bfs ok (a := a) (b := b) (t := runT W (.cmp .lt (.var 5) (.op1 .len (.var 4)))) (body := runB W 1000000 body) (wp := [0, 9, 10, 11, 12, 13, 14, 15]) st (fun _ _ => rfl)
    (fun L i _ => by
      have e := lD_len enc1 L
      have lt : semLt (.int (i : Nat)) (.int (L.length : Nat)) = some (.val (.bl (decide (i < L.length)))) := by
        show some (Out.val (.bl (decide (((i : Nat) : Int) < ((L.length : Nat) : Int))))) = _
        rw [show decide (((i : Nat) : Int) < ((L.length : Nat) : Int)) = decide (i < L.length) from by simp]
      simp only [st]
      generalize lD enc1 L = z at e ⊢
      simp [look, res, sem1, e, sem2, lt, pre2])
    (fun L i k w g _ h hf => by
      refine ⟨s9 L i k, ?_, rfl⟩
      refine (head L i k w h _).trans (runB_ret ?_)
      have e := at_enc enc1_ok g.nd h
      rw [runS_ife, tst, hf]
      show runB W 1000000 _ (s9 L i k) = _
      simp only [s9]
      generalize dD enc1 L = z at e ⊢
      simp [look, res, sem2, pre2, e])
    (fun L i k w g hi h hf => by
      have hks : k.1 < M.tb.length := g.lt (k, w) (List.mem_of_getElem? h)
      have hwl : w.length ≤ i := g.len i _ h
      have hrow := row_at ok hks
      have hrl := row_len ok hks
      have stp : ∀ (j : Nat) (d : Dat) (r : Rho), (zipD ((M.cs.map sg).map .str) (nats (M.tb.getD k.1 [])))[j]? = some d → r = si (puts M a b k w (0 + j) L) i k → ∃ r', stepF W 1000000 (.tup [13, 14]) inner d r = some (.next r') ∧ wipeR r' [0, 10, 13, 14, 15] = si (puts M a b k w (0 + j + 1) L) i k := by
        intro j d r hd hr
        subst hr
        rw [Nat.zero_add]
        have hj : j < M.cs.length := by
          have := (List.getElem?_eq_some_iff.mp hd).1
          rw [zip_len, List.length_map, List.length_map] at this
          omega
        obtain ⟨g1, l1, h1⟩ := puts_ok ok (a := a) (b := b) hks hwl g h j (by omega)
        rw [puts_succ]
        generalize puts M a b k w j L = N at g1 l1 h1 ⊢
        obtain ⟨c, hc⟩ : ∃ c, M.cs.getD j 0 = c := ⟨_, rfl⟩
        obtain ⟨x, hx⟩ : ∃ x, (M.tb.getD k.1 []).getD j 0 = x := ⟨_, rfl⟩
        have ed : d = .tup [.str (sg c), .int (x : Nat)] := by
          rw [zip_get] at hd
          have e1 : ((M.cs.map sg).map Dat.str)[j]? = some (.str (sg c)) := by
            rw [List.getElem?_map, List.getElem?_map, ← hc, List.getD_eq_getElem?_getD, List.getElem?_eq_getElem hj]
            rfl
          have e2 : (nats (M.tb.getD k.1 []))[j]? = some (.int (x : Nat)) := by
            unfold nats
            rw [List.getElem?_map, ← hx, List.getD_eq_getElem?_getD (l := M.tb.getD k.1 []), List.getElem?_eq_getElem (by omega)]
            rfl
          rw [e1, e2] at hd
          exact (Option.some.inj hd).symm
        subst ed
        have ego : go M a b k j = (x, k.2.1 || decide (c = a), k.2.2 || decide (c = b)) := by
          unfold go
          rw [hc, hx]
        let t : Key := (x, k.2.1 || decide (c = a), k.2.2 || decide (c = b))
        have q1 := eq_sg c a
        have q2 := eq_sg c b
        have qn := notIn_enc enc1_ok t N
        have qa := at_enc enc1_ok g1.nd h1
        have qs := add_sg (w := w) (c := c) (by omega)
        let s13 : Option Sl → Ln → Rho := fun o N => [none, some ⟨.str (sg a), .fz⟩, some ⟨.str (sg b), .fz⟩, some ⟨dD enc1 N, .own⟩, some ⟨lD enc1 N, .own⟩, some ⟨.int (i : Nat), .fz⟩, some ⟨tx M.cs, .fz⟩, some ⟨.tup (rowsD M.tb), .fz⟩, some ⟨.tup (nats M.es), .fz⟩, some ⟨enc1 k, .fz⟩, none, some ⟨.bl k.2.1, .fz⟩, some ⟨.bl k.2.2, .fz⟩, some ⟨.str (sg c), .fz⟩, some ⟨.int (x : Nat), .fz⟩, o]
        have first : runS W 1000000 (.set 15 (.tup (.cons (.var 14) (.cons (.or (.var 11) (.op2 .eq (.var 13) (.var 1))) (.cons (.or (.var 12) (.op2 .eq (.var 13) (.var 2))) .nil))))) (s13 none N) = some (.next (s13 (some ⟨enc1 t, .fz⟩) N)) := by
          obtain ⟨s, f, f'⟩ := k
          simp only [t, enc1, s13]
          generalize hp : decide (c = a) = p at q1 ⊢
          generalize hq : decide (c = b) = q at q2 ⊢
          cases f <;> cases f' <;> simp [look, res, frz, truthD, sem2, pre2, q1, q2, store]
        have tt : runT W (.cmp .notIn (.var 15) (.var 3)) (s13 (some ⟨enc1 t, .fz⟩) N) = some (!decide (t ∈ N.map (·.1)), s13 (some ⟨enc1 t, .fz⟩) N) := by
          simp only [s13]
          generalize dD enc1 N = z at qn ⊢
          simp [look, res, sem2, pre2, qn]
        show ∃ r', runB W 1000000 inner (s13 none N) = some (.next r') ∧ _
        unfold put
        rw [ego, hc]
        by_cases hm : t ∈ N.map (·.1)
        · rw [if_pos hm]
          rw [decide_eq_true hm] at tt
          refine ⟨s13 (some ⟨enc1 t, .fz⟩) N, ?_, rfl⟩
          refine (runB_next first).trans ?_
          refine (runB_next (r' := s13 (some ⟨enc1 t, .fz⟩) N) ?_).trans (by simp)
          rw [runS_ife, tt]
          rfl
        · rw [if_neg hm]
          rw [decide_eq_false hm] at tt
          refine ⟨s13 (some ⟨enc1 t, .fz⟩) (N ++ [(t, w ++ [c])]), ?_, rfl⟩
          refine (runB_next first).trans ?_
          refine (runB_next (r' := s13 (some ⟨enc1 t, .fz⟩) (N ++ [(t, w ++ [c])])) ?_).trans (by simp)
          rw [runS_ife, tt]
          show runB W 1000000 _ (s13 (some ⟨enc1 t, .fz⟩) N) = _
          have hNl : N.length < sizeLine := by
            have := g1.few
            have := ok.t60
            exact small1000 (by omega)
          have okk := okey_enc enc1_ok (N.map (·.1)) t
          have pe := put_enc enc1_ok (w ++ [c]) hm
          let sm : Rho := [none, some ⟨.str (sg a), .fz⟩, some ⟨.str (sg b), .fz⟩, some ⟨dD enc1 (N ++ [(t, w ++ [c])]), .own⟩, some ⟨lD enc1 N, .own⟩, some ⟨.int (i : Nat), .fz⟩, some ⟨tx M.cs, .fz⟩, some ⟨.tup (rowsD M.tb), .fz⟩, some ⟨.tup (nats M.es), .fz⟩, some ⟨enc1 k, .fz⟩, none, some ⟨.bl k.2.1, .fz⟩, some ⟨.bl k.2.2, .fz⟩, some ⟨.str (sg c), .fz⟩, some ⟨.int (x : Nat), .fz⟩, some ⟨enc1 t, .fz⟩]
          refine (runB_next (r' := sm) ?_).trans ?_
          · have hz : ((N.map (·.1)).map enc1).length < sizeLine := by rw [List.length_map, List.length_map]; exact hNl
            have qa' : semAt (.dct ((N.map (·.1)).map enc1) ((N.map (·.2)).map tx)) (enc1 k) = some (.val (tx w)) := qa
            simp only [sm, s13, ← pe]
            simp only [dD]
            generalize (N.map (·.1)).map enc1 = ks at okk qa' hz ⊢
            generalize (N.map (·.2)).map tx = vs at qa' ⊢
            generalize enc1 t = et at okk ⊢
            generalize enc1 k = ek at qa' ⊢
            simp [runS_setAt, look, res, frz, sem2, pre2, qa', qs, okk, hz]
          · have el : lD enc1 (N ++ [(t, w ++ [c])]) = .lst ((N.map (·.1)).map enc1 ++ [enc1 t]) := by
              unfold lD
              simp
            have hz : ((N.map (·.1)).map enc1).length < sizeLine := by rw [List.length_map, List.length_map]; exact hNl
            simp only [sm, s13, el]
            simp only [lD]
            generalize (N.map (·.1)).map enc1 = ks at hz ⊢
            simp [run_app, look, res, frz, isLst, hz]
      obtain ⟨r', lp, er⟩ := forD_ix (f := stepF W 1000000 (.tup [13, 14]) inner) (wp := [0, 10, 13, 14, 15]) (fun j r => r = si (puts M a b k w j L) i k) (zipD ((M.cs.map sg).map .str) (nats (M.tb.getD k.1 []))) 0 (si L i k) rfl (fun j d r hd hr => by
        obtain ⟨r', e1, e2⟩ := stp j d r hd hr
        exact ⟨r', e1, e2⟩)
      have hzl : (zipD ((M.cs.map sg).map Dat.str) (nats (M.tb.getD k.1 []))).length = M.cs.length := by
        rw [zip_len, List.length_map, List.length_map]
        unfold nats
        rw [List.length_map, hrl]
        omega
      rw [Nat.zero_add, hzl] at er
      subst er
      refine ⟨(si (puts M a b k w M.cs.length L) i k).set 5 (some ⟨.int ((i + 1 : Nat) : Int), .fz⟩), ?_, rfl⟩
      refine (head L i k w h _).trans ?_
      refine (runB_next (r' := s9 L i k) ?_).trans ?_
      · rw [runS_ife, tst, hf]
        rfl
      refine (runB_next (r' := si (puts M a b k w M.cs.length L) i k) ?_).trans ?_
      · have src : runI W (.zip (.cons (.var 6) (.cons (.op2 .at (.var 7) (.var 10)) .nil))) (s9 L i k) = some (zipD ((M.cs.map sg).map .str) (nats (M.tb.getD k.1 [])), s9 L i k) := by
          have it : items (tx M.cs) = some ((M.cs.map sg).map .str) := rfl
          simp only [s9]
          generalize (M.cs.map sg).map Dat.str = u at it ⊢
          generalize M.tb.getD k.1 [] = row at hrow ⊢
          simp [look, res, frz, sem2, pre2, hrow, it]
          rfl
        rw [runS_for, src]
        exact lp
      · have e1 : semAdd (.int (i : Nat)) (.int 1) = some (.val (.int ((i + 1 : Nat) : Int))) := rfl
        simp [si, runS_aug, look, res, frz, e1])
  obtain ⟨k1, k2⟩ := key 300 1000000 0 [((0, false, false), [])] o (good0 ok) (Nat.zero_le _) (by decide) ho
  have m0 : mkD [enc1 (0, false, false), tx []] [] [] = some (dD enc1 [((0, false, false), [])]) := by rfl
  have l0 : semList (dD enc1 [((0, false, false), [])]) = some (.fresh (lD enc1 [((0, false, false), [])])) := by rfl
  have pre : ∀ ss, runB W 1000000 (.cons (.unp [6, 7, 8] (.var 0))
    (.cons (.set 3 (.dct (.cons (.tup (.cons (.int 0) (.cons (.bl false) (.cons (.bl false) .nil)))) (.cons (.str "") .nil))))
    (.cons (.set 4 (.op1 .list (.var 3)))
    (.cons (.set 5 (.int 0))
    ss)))) (startR d_with_both [M.d, .str (sg a), .str (sg b)]) = runB W 1000000 ss ((st [((0, false, false), [])] 0).set 0 (some ⟨M.d, .fz⟩)) := by
    intro ss
    have m0' : mkD [.tup [.int 0, .bl false, .bl false], .str ""] [] [] = some (dD enc1 [((0, false, false), [])]) := m0
    generalize hz : dD enc1 [((0, false, false), [])] = z at m0' l0
    generalize hy : lD enc1 [((0, false, false), [])] = y at l0
    simp only [st]
    rw [hz, hy]
    refine (runB_next (r' := [some ⟨M.d, .fz⟩, some ⟨.str (sg a), .fz⟩, some ⟨.str (sg b), .fz⟩, none, none, none, some ⟨tx M.cs, .fz⟩, some ⟨.tup (rowsD M.tb), .fz⟩, some ⟨.tup (nats M.es), .fz⟩, none, none, none, none, none, none, none]) ?_).trans ?_
    · simp [startR, d_with_both, Mc.d, look, res, frz, Dl.putAll]
    refine (runB_next (r' := [some ⟨M.d, .fz⟩, some ⟨.str (sg a), .fz⟩, some ⟨.str (sg b), .fz⟩, some ⟨z, .own⟩, none, none, some ⟨tx M.cs, .fz⟩, some ⟨.tup (rowsD M.tb), .fz⟩, some ⟨.tup (nats M.es), .fz⟩, none, none, none, none, none, none, none]) ?_).trans ?_
    · simp [look, res, frz, m0', store]
    refine (runB_next (r' := [some ⟨M.d, .fz⟩, some ⟨.str (sg a), .fz⟩, some ⟨.str (sg b), .fz⟩, some ⟨z, .own⟩, some ⟨y, .own⟩, none, some ⟨tx M.cs, .fz⟩, some ⟨.tup (rowsD M.tb), .fz⟩, some ⟨.tup (nats M.es), .fz⟩, none, none, none, none, none, none, none]) ?_).trans ?_
    · simp [look, res, sem1, l0, store]
    · refine runB_next ?_
      simp [store]
  cases o with
  | some w =>
    obtain ⟨⟨r, hr⟩, _⟩ := k1 w rfl
    refine runD_val (r := r) rfl ?_ rfl
    refine (pre _).trans (runB_ret ?_)
    rw [runS_whl]
    exact hr
  | none =>
    obtain ⟨L', i', hr⟩ := k2 rfl
    refine runD_val (r := st L' i') rfl ?_ rfl
    refine (pre _).trans ?_
    refine (runB_next (r' := st L' i') ?_).trans ?_
    · rw [runS_whl]
      exact hr
    · simp [resD]
end K

namespace K
open PySem PySem.Spec PyProof.Rows L2 Dl Dw Ds Dq
theorem num_at {l : List Nat} {j : Nat} (h : j < l.length) : semAt (.tup (nats l)) (.int (j : Nat)) = some (.val (.int (l.getD j 0 : Nat))) := by
  show (atI _ _).map Out.val = _
  rw [atI_nat (show (nats l)[j]? = some (.int (l.getD j 0 : Nat)) by
    unfold nats
    rw [List.getElem?_map, List.getD_eq_getElem?_getD, List.getElem?_eq_getElem h]
    rfl)]
  rfl
theorem int_bl (p : Bool) : semInt (.bl p) = some (.val (.int (bI p))) := by cases p <;> rfl
theorem mul2 (q : Bool) : semMul (.int 2) (.int (bI q)) = some (.val (.int (2 * bI q))) := mul_eq ⟨by decide, by decide⟩
theorem eq3 (f g : Bool) : semEq (.int (bI f + 2 * bI g)) (.int 3) = some (.val (.bl (f && g))) := by
  cases f <;> cases g <;> rfl
/-- the law's own way -/
theorem first_run (W : Wd) {M : Mc} (ok : McOk M) (a b : Nat) {o : Option (List Nat)} (ho : bfs M a b 300 0 [((0, false, false), [])] = some o) :
    runD W 1000000 d_law_first_with [M.d, .str (sg a), .str (sg b)] = some (.val (resD o), .non) := by
  let st : Ln → Nat → Rho := fun L i => [none, some ⟨.str (sg a), .fz⟩, some ⟨.str (sg b), .fz⟩, some ⟨dD encL L, .own⟩, some ⟨lD encL L, .own⟩, some ⟨.int (i : Nat), .fz⟩, some ⟨tx M.cs, .fz⟩, some ⟨.tup (rowsD M.tb), .fz⟩, some ⟨.tup (nats M.es), .fz⟩, none, none, none, none, none]
  let s9 : Ln → Nat → Key → Rho := fun L i k => [none, some ⟨.str (sg a), .fz⟩, some ⟨.str (sg b), .fz⟩, some ⟨dD encL L, .own⟩, some ⟨lD encL L, .own⟩, some ⟨.int (i : Nat), .fz⟩, some ⟨tx M.cs, .fz⟩, some ⟨.tup (rowsD M.tb), .fz⟩, some ⟨.tup (nats M.es), .fz⟩, none, some ⟨.int (k.1 : Nat), .fz⟩, some ⟨.int (bI k.2.1 + 2 * bI k.2.2), .fz⟩, none, none]
  let inner : Ss := (.cons (.set 12 (.op2 .add (.op1 .int (.op2 .eq (.op2 .at (.var 6) (.var 9)) (.var 1))) (.op2 .mul (.int 2) (.op1 .int (.op2 .eq (.op2 .at (.var 6) (.var 9)) (.var 2))))))
    (.cons (.set 13 (.tup (.cons (.op2 .at (.op2 .at (.var 7) (.var 10)) (.var 9)) (.cons (.op2 .bor (.var 11) (.var 12)) .nil))))
    (.cons (.ife (.cmp .notIn (.var 13) (.var 3)) (.cons (.setAt 3 (.var 13) (.op2 .add (.op2 .at (.var 3) (.op2 .at (.var 4) (.var 5))) (.op2 .at (.var 6) (.var 9))))
    (.cons (.expr (.app 4 (.var 13)))
    .nil)) .nil)
    .nil)))
  let body : Ss := (.cons (.unp [10, 11] (.op2 .at (.var 4) (.var 5)))
    (.cons (.ife (.and (.cmp .isIn (.var 10) (.var 8)) (.cmp .eq (.var 11) (.int 3))) (.cons (.ret (.op2 .at (.var 3) (.op2 .at (.var 4) (.var 5))))
    .nil) .nil)
    (.cons (.for_ (.name 9) (.rng1 (.op1 .len (.var 6))) inner [0, 9, 12, 13])
    (.cons (.set 5 (.op2 .add (.var 5) (.int 1)))
    .nil))))
  have head : ∀ (L : Ln) (i : Nat) (k : Key) (w : List Nat), L[i]? = some (k, w) → ∀ ss, runB W 1000000 (.cons (.unp [10, 11] (.op2 .at (.var 4) (.var 5))) ss) (st L i) = runB W 1000000 ss (s9 L i k) := by
    intro L i k w h ss
    have e := order_at encL_ok h
    refine runB_next ?_
    simp only [st, s9]
    generalize lD encL L = z at e ⊢
    simp [look, res, frz, sem2, pre2, e, encL, Dl.putAll]
  have tst : ∀ (L : Ln) (i : Nat) (k : Key), runT W (.and (.cmp .isIn (.var 10) (.var 8)) (.cmp .eq (.var 11) (.int 3))) (s9 L i k) = some (fnl M k, s9 L i k) := by
    intro L i k
    have e := in_nats k.1 M.es
    have e3 := eq3 k.2.1 k.2.2
    unfold fnl
    simp only [s9]
    cases hd : decide (k.1 ∈ M.es) <;> rw [hd] at e <;> simp [look, res, sem2, pre2, e, e3]
  have key := whl_bfs ok (a := a) (b := b) (t := runT W (.cmp .lt (.var 5) (.op1 .len (.var 4)))) (body := runB W 1000000 body) (wp := [0, 9, 10, 11, 12, 13]) st (fun _ _ => rfl)
    (fun L i _ => by
      have e := lD_len encL L
      have lt : semLt (.int (i : Nat)) (.int (L.length : Nat)) = some (.val (.bl (decide (i < L.length)))) := by
        show some (Out.val (.bl (decide (((i : Nat) : Int) < ((L.length : Nat) : Int))))) = _
        rw [show decide (((i : Nat) : Int) < ((L.length : Nat) : Int)) = decide (i < L.length) from by simp]
      simp only [st]
      generalize lD encL L = z at e ⊢
      simp [look, res, sem1, e, sem2, lt, pre2])
    (fun L i k w g _ h hf => by
      refine ⟨s9 L i k, ?_, rfl⟩
      refine (head L i k w h _).trans (runB_ret ?_)
      have e := at_enc encL_ok g.nd h
      have e' := order_at encL_ok h
      rw [runS_ife, tst, hf]
      show runB W 1000000 _ (s9 L i k) = _
      simp only [s9]
      generalize dD encL L = z at e ⊢
      generalize lD encL L = z' at e' ⊢
      simp [look, res, sem2, pre2, e, e'])
    (fun L i k w g hi h hf => by
      have hks : k.1 < M.tb.length := g.lt (k, w) (List.mem_of_getElem? h)
      have hwl : w.length ≤ i := g.len i _ h
      have hrow := row_at ok hks
      have hrl := row_len ok hks
      have stp : ∀ (j : Nat) (d : Dat) (r : Rho), (rangeD 0 M.cs.length)[j]? = some d → r = s9 (puts M a b k w (0 + j) L) i k → ∃ r', stepF W 1000000 (.name 9) inner d r = some (.next r') ∧ wipeR r' [0, 9, 12, 13] = s9 (puts M a b k w (0 + j + 1) L) i k := by
        intro j d r hd hr
        subst hr
        rw [Nat.zero_add]
        have hj : j < M.cs.length := by
          have := (List.getElem?_eq_some_iff.mp hd).1
          rw [rangeD_len] at this
          exact this
        have ed : d = .int (j : Nat) := by
          unfold rangeD at hd
          rw [List.getElem?_map, List.getElem?_range hj] at hd
          have hd := Option.some.inj hd
          rw [← hd]
          exact congrArg Dat.int (by omega)
        subst ed
        obtain ⟨g1, l1, h1⟩ := puts_ok ok (a := a) (b := b) hks hwl g h j (by omega)
        rw [puts_succ]
        generalize puts M a b k w j L = N at g1 l1 h1 ⊢
        have ec := at_tx hj
        have ex := num_at (l := M.tb.getD k.1 []) (j := j) (by omega)
        obtain ⟨c, hc⟩ : ∃ c, M.cs.getD j 0 = c := ⟨_, rfl⟩
        obtain ⟨x, hx⟩ : ∃ x, (M.tb.getD k.1 []).getD j 0 = x := ⟨_, rfl⟩
        rw [hc] at ec
        rw [hx] at ex
        have ego : go M a b k j = (x, k.2.1 || decide (c = a), k.2.2 || decide (c = b)) := by
          unfold go
          rw [hc, hx]
        let t : Key := (x, k.2.1 || decide (c = a), k.2.2 || decide (c = b))
        have q1 := eq_sg c a
        have q2 := eq_sg c b
        have qn := notIn_enc encL_ok t N
        have qa := at_enc encL_ok g1.nd h1
        have qo := order_at encL_ok h1
        have qs := add_sg (w := w) (c := c) (by omega)
        let s13 : Option Sl → Option Sl → Ln → Rho := fun o o' N => [none, some ⟨.str (sg a), .fz⟩, some ⟨.str (sg b), .fz⟩, some ⟨dD encL N, .own⟩, some ⟨lD encL N, .own⟩, some ⟨.int (i : Nat), .fz⟩, some ⟨tx M.cs, .fz⟩, some ⟨.tup (rowsD M.tb), .fz⟩, some ⟨.tup (nats M.es), .fz⟩, some ⟨.int (j : Nat), .fz⟩, some ⟨.int (k.1 : Nat), .fz⟩, some ⟨.int (bI k.2.1 + 2 * bI k.2.2), .fz⟩, o, o']
        let om : Option Sl := some ⟨.int (bI (decide (c = a)) + 2 * bI (decide (c = b))), .fz⟩
        let ot : Option Sl := some ⟨encL t, .fz⟩
        have first : runS W 1000000 (.set 12 (.op2 .add (.op1 .int (.op2 .eq (.op2 .at (.var 6) (.var 9)) (.var 1))) (.op2 .mul (.int 2) (.op1 .int (.op2 .eq (.op2 .at (.var 6) (.var 9)) (.var 2)))))) (s13 none none N) = some (.next (s13 om none N)) := by
          have i1 := int_bl (decide (c = a))
          have i2 := int_bl (decide (c = b))
          have m2 := mul2 (decide (c = b))
          simp only [om, s13]
          generalize decide (c = a) = p at q1 i1 ⊢
          generalize decide (c = b) = q at q2 i2 m2 ⊢
          have ad : semAdd (.int (bI p)) (.int (2 * bI q)) = some (.val (.int (bI p + 2 * bI q))) := rfl
          simp [look, res, frz, sem1, sem2, pre2, ec, q1, q2, i1, i2, m2, ad, store]
        have second : runS W 1000000 (.set 13 (.tup (.cons (.op2 .at (.op2 .at (.var 7) (.var 10)) (.var 9)) (.cons (.op2 .bor (.var 11) (.var 12)) .nil)))) (s13 om none N) = some (.next (s13 om ot N)) := by
          have bo := bor_ok k.2.1 k.2.2 (decide (c = a)) (decide (c = b))
          simp only [om, ot, s13, t, encL]
          generalize decide (c = a) = p at bo ⊢
          generalize decide (c = b) = q at bo ⊢
          generalize M.tb.getD k.1 [] = row at hrow ex
          simp [look, res, frz, sem2, pre2, hrow, ex, bo, store]
        have tt : runT W (.cmp .notIn (.var 13) (.var 3)) (s13 om ot N) = some (!decide (t ∈ N.map (·.1)), s13 om ot N) := by
          simp only [s13, ot]
          generalize dD encL N = z at qn ⊢
          simp [look, res, sem2, pre2, qn]
        show ∃ r', runB W 1000000 inner (s13 none none N) = some (.next r') ∧ _
        unfold put
        rw [ego, hc]
        by_cases hm : t ∈ N.map (·.1)
        · rw [if_pos hm]
          rw [decide_eq_true hm] at tt
          refine ⟨s13 om ot N, ?_, rfl⟩
          refine (runB_next first).trans ((runB_next second).trans ?_)
          refine (runB_next (r' := s13 om ot N) ?_).trans (by simp)
          rw [runS_ife, tt]
          rfl
        · rw [if_neg hm]
          rw [decide_eq_false hm] at tt
          refine ⟨s13 om ot (N ++ [(t, w ++ [c])]), ?_, rfl⟩
          refine (runB_next first).trans ((runB_next second).trans ?_)
          refine (runB_next (r' := s13 om ot (N ++ [(t, w ++ [c])])) ?_).trans (by simp)
          rw [runS_ife, tt]
          show runB W 1000000 _ (s13 om ot N) = _
          have hNl : N.length < sizeLine := by
            have := g1.few
            have := ok.t60
            exact small1000 (by omega)
          have okk := okey_enc encL_ok (N.map (·.1)) t
          have pe := put_enc encL_ok (w ++ [c]) hm
          let sm : Rho := [none, some ⟨.str (sg a), .fz⟩, some ⟨.str (sg b), .fz⟩, some ⟨dD encL (N ++ [(t, w ++ [c])]), .own⟩, some ⟨lD encL N, .own⟩, some ⟨.int (i : Nat), .fz⟩, some ⟨tx M.cs, .fz⟩, some ⟨.tup (rowsD M.tb), .fz⟩, some ⟨.tup (nats M.es), .fz⟩, some ⟨.int (j : Nat), .fz⟩, some ⟨.int (k.1 : Nat), .fz⟩, some ⟨.int (bI k.2.1 + 2 * bI k.2.2), .fz⟩, om, ot]
          refine (runB_next (r' := sm) ?_).trans ?_
          · have hz : ((N.map (·.1)).map encL).length < sizeLine := by rw [List.length_map, List.length_map]; exact hNl
            have qa' : semAt (.dct ((N.map (·.1)).map encL) ((N.map (·.2)).map tx)) (encL k) = some (.val (tx w)) := qa
            have qo' : semAt (.lst ((N.map (·.1)).map encL)) (.int (i : Nat)) = some (.val (encL k)) := qo
            simp only [sm, s13, ot, om, ← pe]
            simp only [dD, lD]
            generalize (N.map (·.1)).map encL = ks at okk qa' qo' hz ⊢
            generalize (N.map (·.2)).map tx = vs at qa' ⊢
            generalize encL t = et at okk ⊢
            generalize encL k = ek at qa' qo' ⊢
            simp [runS_setAt, look, res, frz, sem2, pre2, qa', qo', ec, qs, okk, hz]
          · have el : lD encL (N ++ [(t, w ++ [c])]) = .lst ((N.map (·.1)).map encL ++ [encL t]) := by
              unfold lD
              simp
            have hz : ((N.map (·.1)).map encL).length < sizeLine := by rw [List.length_map, List.length_map]; exact hNl
            simp only [sm, s13, ot, om, el]
            simp only [lD]
            generalize (N.map (·.1)).map encL = ks at hz ⊢
            simp [run_app, look, res, frz, isLst, hz]
      obtain ⟨r', lp, er⟩ := forD_ix (f := stepF W 1000000 (.name 9) inner) (wp := [0, 9, 12, 13]) (fun j r => r = s9 (puts M a b k w j L) i k) (rangeD 0 M.cs.length) 0 (s9 L i k) rfl (fun j d r hd hr => by
        obtain ⟨r', e1, e2⟩ := stp j d r hd hr
        exact ⟨r', e1, e2⟩)
      rw [Nat.zero_add, rangeD_len] at er
      subst er
      refine ⟨(s9 (puts M a b k w M.cs.length L) i k).set 5 (some ⟨.int ((i + 1 : Nat) : Int), .fz⟩), ?_, rfl⟩
      refine (head L i k w h _).trans ?_
      refine (runB_next (r' := s9 L i k) ?_).trans ?_
      · rw [runS_ife, tst, hf]
        rfl
      refine (runB_next (r' := s9 (puts M a b k w M.cs.length L) i k) ?_).trans ?_
      · have src : runI W (.rng1 (.op1 .len (.var 6))) (s9 L i k) = some (rangeD 0 M.cs.length, s9 L i k) := by
          have h5 := ok.l5
          have := small_line (n := M.cs.length) (by omega)
          have el : semLen (tx M.cs) = some (.val (.int (M.cs.length : Nat))) := rfl
          simp [s9, runI_rng1, look, res, sem1, el]
          omega
        rw [runS_for, src]
        exact lp
      · have e1 : semAdd (.int (i : Nat)) (.int 1) = some (.val (.int ((i + 1 : Nat) : Int))) := rfl
        simp [s9, look, res, frz, sem2, pre2, e1, store])
  obtain ⟨k1, k2⟩ := key 300 1000000 0 [((0, false, false), [])] o (good0 ok) (Nat.zero_le _) (by decide) ho
  have m0 : mkD [.tup [.int 0, .int 0], .str ""] [] [] = some (dD encL [((0, false, false), [])]) := by rfl
  have pre : ∀ ss, runB W 1000000 (.cons (.unp [6, 7, 8] (.var 0))
    (.cons (.set 3 (.dct (.cons (.tup (.cons (.int 0) (.cons (.int 0) .nil))) (.cons (.str "") .nil))))
    (.cons (.set 4 (.lst (.cons (.tup (.cons (.int 0) (.cons (.int 0) .nil))) .nil)))
    (.cons (.set 5 (.int 0))
    ss)))) (startR d_law_first_with [M.d, .str (sg a), .str (sg b)]) = runB W 1000000 ss ((st [((0, false, false), [])] 0).set 0 (some ⟨M.d, .fz⟩)) := by
    intro ss
    generalize hz : dD encL [((0, false, false), [])] = z at m0
    have hy : lD encL [((0, false, false), [])] = .lst [.tup [.int 0, .int 0]] := rfl
    simp only [st]
    rw [hz, hy]
    refine (runB_next (r' := [some ⟨M.d, .fz⟩, some ⟨.str (sg a), .fz⟩, some ⟨.str (sg b), .fz⟩, none, none, none, some ⟨tx M.cs, .fz⟩, some ⟨.tup (rowsD M.tb), .fz⟩, some ⟨.tup (nats M.es), .fz⟩, none, none, none, none, none]) ?_).trans ?_
    · simp [startR, d_law_first_with, Mc.d, look, res, frz, Dl.putAll]
    refine (runB_next (r' := [some ⟨M.d, .fz⟩, some ⟨.str (sg a), .fz⟩, some ⟨.str (sg b), .fz⟩, some ⟨z, .own⟩, none, none, some ⟨tx M.cs, .fz⟩, some ⟨.tup (rowsD M.tb), .fz⟩, some ⟨.tup (nats M.es), .fz⟩, none, none, none, none, none]) ?_).trans ?_
    · simp [look, res, frz, m0, store]
    refine (runB_next (r' := [some ⟨M.d, .fz⟩, some ⟨.str (sg a), .fz⟩, some ⟨.str (sg b), .fz⟩, some ⟨z, .own⟩, some ⟨.lst [.tup [.int 0, .int 0]], .own⟩, none, some ⟨tx M.cs, .fz⟩, some ⟨.tup (rowsD M.tb), .fz⟩, some ⟨.tup (nats M.es), .fz⟩, none, none, none, none, none]) ?_).trans ?_
    · simp [look, res, frz, store]
    · refine runB_next ?_
      simp [store]
  cases o with
  | some w =>
    obtain ⟨⟨r, hr⟩, _⟩ := k1 w rfl
    refine runD_val (r := r) rfl ?_ rfl
    refine (pre _).trans (runB_ret ?_)
    rw [runS_whl]
    exact hr
  | none =>
    obtain ⟨L', i', hr⟩ := k2 rfl
    refine runD_val (r := st L' i') rfl ?_ rfl
    refine (pre _).trans ?_
    refine (runB_next (r' := st L' i') ?_).trans ?_
    · rw [runS_whl]
      exact hr
    · simp [resD]
end K

namespace K
open PySem PySem.Spec PyProof.Rows L2 Dl Dw Ds Dq
theorem run_and_bl {W : Wd} {r : Rho} {a b : E} {x y : Bool} (h1 : Dl.run W a r = some (.val (.bl x), r)) (h2 : Dl.run W b r = some (.val (.bl y), r)) : Dl.run W (.and a b) r = some (.val (.bl (x && y)), r) := by
  rw [run_and, h1]
  cases x <;> simp [frz, truthD, h2]
theorem run_or_bl {W : Wd} {r : Rho} {a b : E} {x y : Bool} (h1 : Dl.run W a r = some (.val (.bl x), r)) (h2 : Dl.run W b r = some (.val (.bl y), r)) : Dl.run W (.or a b) r = some (.val (.bl (x || y)), r) := by
  rw [run_or, h1]
  cases x <;> simp [frz, truthD, h2]
theorem far_run {W : Wd} (n : Nat) (hW : HasTk W) {row : Dat} (hr : IsDr row) {cs : List Nat} (hc : DrL cs) (a b : Nat) :
    ∃ (M : Mc) (row' : _), runD W n d_law_far_machine [row, tx cs, .str (sg a), .str (sg b)] = some (.val M.d, row') ∧ M.cs = cs ∧ 0 < M.tb.length ∧ M.tb.length ≤ 60 ∧ (∀ r ∈ M.tb, r.length = cs.length ∧ ∀ x ∈ r, x < M.tb.length) ∧ M.es.length ≤ 1 ∧ IsDr row' := by
  obtain ⟨m, r1, t1, m0, m1, h1⟩ := hW.run row 46 hr (by decide)
  obtain ⟨N, hN⟩ : ∃ N : Nat, 15 + m = N := ⟨(15 + m).toNat, by omega⟩
  obtain ⟨u, r2, t2, u0, u1, h2⟩ := hW.run r1 ((N : Int) - 2) h1 (by omega)
  obtain ⟨v, r3, t3, v0, v1, h3⟩ := hW.run r2 ((N : Int) - 2) h2 (by omega)
  let st : List (List Nat) → Option Sl → Option Sl → Option Sl → Option Sl → Rho := fun tb o7 o8 o9 o10 => [some ⟨r3, .io⟩, some ⟨tx cs, .fz⟩, some ⟨.str (sg a), .fz⟩, some ⟨.str (sg b), .fz⟩, some ⟨.int (N : Nat), .fz⟩, some ⟨.lst [.int u, .int v], .own⟩, some ⟨.lst (rowsD tb), .own⟩, o7, o8, o9, o10]
  let inner : Ss := (.cons (.set 10 (.and (.op2 .notIn (.var 9) (.tup (.cons (.var 2) (.cons (.var 3) .nil)))) (.op2 .notIn (.var 7) (.var 5))))
    (.cons (.set 10 (.or (.var 10) (.or (.and (.op2 .eq (.var 9) (.var 2)) (.op2 .eq (.var 7) (.op2 .at (.var 5) (.int 0)))) (.and (.op2 .eq (.var 9) (.var 3)) (.op2 .eq (.var 7) (.op2 .at (.var 5) (.int 1)))))))
    (.cons (.expr (.app 8 (.op2 .at (.lst (.cons (.op2 .sub (.var 4) (.int 1)) (.cons (.op2 .add (.var 7) (.int 1)) .nil))) (.op1 .int (.var 10)))))
    .nil)))
  let body : Ss := (.cons (.set 8 (.lst .nil))
    (.cons (.for_ (.name 9) (.seq (.var 1)) inner [9, 10])
    (.cons (.expr (.app 6 (.op1 .tuple (.var 8))))
    .nil)))
  have turn : ∀ (tb : List (List Nat)) (i : Nat) (ys : List Nat) (c : Nat), (i : Int) + 1 < N → ys.length ≤ 900 → ∃ z : Nat, z < N ∧ ∃ o, runB W n inner (st tb (some ⟨.int (i : Nat), .fz⟩) (some ⟨.lst (nats ys), .own⟩) (some ⟨.str (sg c), .fz⟩) none) = some (.next (st tb (some ⟨.int (i : Nat), .fz⟩) (some ⟨.lst (nats (ys ++ [z])), .own⟩) (some ⟨.str (sg c), .fz⟩) o)) := by
    intro tb i ys c hi hl
    generalize hs : st tb (some ⟨.int (i : Nat), .fz⟩) (some ⟨.lst (nats ys), .own⟩) (some ⟨.str (sg c), .fz⟩) none = s at *
    obtain ⟨x1, e1⟩ : ∃ x, semNotIn (.str (sg c)) (.tup [.str (sg a), .str (sg b)]) = some (.val (.bl x)) := ⟨_, rfl⟩
    obtain ⟨x2, e2⟩ : ∃ x, semNotIn (.int (i : Nat)) (.lst [.int u, .int v]) = some (.val (.bl x)) := ⟨_, rfl⟩
    have f1 := run_and_bl (W := W) (r := s) (a := .op2 .notIn (.var 9) (.tup (.cons (.var 2) (.cons (.var 3) .nil)))) (b := .op2 .notIn (.var 7) (.var 5)) (x := x1) (y := x2) (by rw [← hs]; simp [st, look, res, frz, sem2, pre2, e1]) (by rw [← hs]; simp [st, look, res, sem2, pre2, e2])
    generalize (x1 && x2) = x at f1
    generalize hs' : st tb (some ⟨.int (i : Nat), .fz⟩) (some ⟨.lst (nats ys), .own⟩) (some ⟨.str (sg c), .fz⟩) (some ⟨.bl x, .fz⟩) = s' at *
    obtain ⟨y1, g1⟩ : ∃ x, semEq (.str (sg c)) (.str (sg a)) = some (.val (.bl x)) := ⟨_, rfl⟩
    obtain ⟨y2, g2⟩ : ∃ x, semEq (.int (i : Nat)) (.int u) = some (.val (.bl x)) := ⟨_, rfl⟩
    obtain ⟨y3, g3⟩ : ∃ x, semEq (.str (sg c)) (.str (sg b)) = some (.val (.bl x)) := ⟨_, rfl⟩
    obtain ⟨y4, g4⟩ : ∃ x, semEq (.int (i : Nat)) (.int v) = some (.val (.bl x)) := ⟨_, rfl⟩
    have a0 : semAt (.lst [.int u, .int v]) (.int 0) = some (.val (.int u)) := rfl
    have a1 : semAt (.lst [.int u, .int v]) (.int 1) = some (.val (.int v)) := rfl
    have k1 := run_and_bl (W := W) (r := s') (a := .op2 .eq (.var 9) (.var 2)) (b := .op2 .eq (.var 7) (.op2 .at (.var 5) (.int 0))) (x := y1) (y := y2) (by rw [← hs']; simp [st, look, res, sem2, pre2, g1]) (by rw [← hs']; simp [st, look, res, sem2, pre2, a0, g2])
    have k2 := run_and_bl (W := W) (r := s') (a := .op2 .eq (.var 9) (.var 3)) (b := .op2 .eq (.var 7) (.op2 .at (.var 5) (.int 1))) (x := y3) (y := y4) (by rw [← hs']; simp [st, look, res, sem2, pre2, g3]) (by rw [← hs']; simp [st, look, res, sem2, pre2, a1, g4])
    have k3 := run_or_bl k1 k2
    have k4 : ∃ y, Dl.run W (.or (.var 10) (.or (.and (.op2 .eq (.var 9) (.var 2)) (.op2 .eq (.var 7) (.op2 .at (.var 5) (.int 0)))) (.and (.op2 .eq (.var 9) (.var 3)) (.op2 .eq (.var 7) (.op2 .at (.var 5) (.int 1)))))) s' = some (.val (.bl y), s') := by
      have hv : look s' 10 = some ⟨.bl x, .fz⟩ := by rw [← hs']; rfl
      rw [run_or, run_var, hv]
      cases x
      · exact ⟨_, by simp [frz, hv, truthD]; exact k3⟩
      · exact ⟨true, by simp [frz, hv, truthD]⟩
    obtain ⟨y, k4⟩ := k4
    obtain ⟨z, hz, az⟩ : ∃ z : Nat, z < N ∧ semAt (.lst [.int ((N : Int) - 1), .int ((i : Int) + 1)]) (.int (bI y)) = some (.val (.int (z : Nat))) := by
      cases y
      · refine ⟨N - 1, by omega, ?_⟩
        rw [show ((N - 1 : Nat) : Int) = (N : Int) - 1 from by omega]
        rfl
      · exact ⟨i + 1, by omega, rfl⟩
    refine ⟨z, hz, some ⟨.bl y, .fz⟩, ?_⟩
    refine (runB_next (r' := s') ?_).trans ((runB_next (r' := st tb (some ⟨.int (i : Nat), .fz⟩) (some ⟨.lst (nats ys), .own⟩) (some ⟨.str (sg c), .fz⟩) (some ⟨.bl y, .fz⟩)) ?_).trans ?_)
    · rw [runS_set, f1, ← hs', ← hs]; simp [st, store]
    · rw [runS_set, k4, ← hs']; simp [st, store]
    · have sz : (nats ys).length < sizeLine := by unfold nats; rw [List.length_map]; exact small1000 (by omega)
      have ea : nats (ys ++ [z]) = nats ys ++ [.int (z : Nat)] := by unfold nats; simp
      have ib := int_bl y
      have sb : semSub (.int (N : Nat)) (.int 1) = some (.val (.int ((N : Int) - 1))) := rfl
      have sa : semAdd (.int (i : Nat)) (.int 1) = some (.val (.int ((i : Int) + 1))) := rfl
      rw [ea]
      simp [st, run_app, look, res, frz, isLst, sem1, sem2, pre2, ib, sb, sa, az, sz]
  have src : ∀ tb o7 o8, runI W (.seq (.var 1)) (st tb o7 o8 none none) = some ((cs.map sg).map .str, st tb o7 o8 none none) := by
    intro tb o7 o8
    simp only [runI_seq, run_var]
    rfl
  obtain ⟨r', lp, tb, htl, htb, rfl⟩ := forD_ix (f := stepF W n (.name 7) body) (wp := [7, 8, 9, 10]) (fun i r => ∃ tb : List (List Nat), tb.length = i ∧ (∀ r ∈ tb, r.length = cs.length ∧ ∀ x ∈ r, x < N) ∧ r = st tb none none none none) (rangeD 0 (N - 1)) 0 (st [] none none none none) ⟨[], rfl, (fun _ q => nomatch q), rfl⟩ (by
    rintro i d r hd ⟨tb, htl, htb, rfl⟩
    rw [Nat.zero_add] at htl ⊢
    have hi : i < N - 1 := by
      have := (List.getElem?_eq_some_iff.mp hd).1
      rw [rangeD_len] at this
      exact this
    have ed : d = .int (i : Nat) := by
      unfold rangeD at hd
      rw [List.getElem?_map, List.getElem?_range hi] at hd
      have hd := Option.some.inj hd
      rw [← hd]
      exact congrArg Dat.int (by omega)
    subst ed
    obtain ⟨r', lp, ys, hyl, hys, rfl⟩ := forD_ix (f := stepF W n (.name 9) inner) (wp := [9, 10]) (fun j r => ∃ ys : List Nat, ys.length = j ∧ (∀ x ∈ ys, x < N) ∧ r = st tb (some ⟨.int (i : Nat), .fz⟩) (some ⟨.lst (nats ys), .own⟩) none none) ((cs.map sg).map .str) 0 (st tb (some ⟨.int (i : Nat), .fz⟩) (some ⟨.lst (nats []), .own⟩) none none) ⟨[], rfl, (fun _ q => nomatch q), rfl⟩ (by
      rintro j d r hd ⟨ys, hyl, hys, rfl⟩
      rw [Nat.zero_add] at hyl ⊢
      have hj := (List.getElem?_eq_some_iff.mp hd).1
      rw [List.length_map, List.length_map] at hj
      obtain ⟨c, rfl⟩ : ∃ c, d = .str (sg c) := by
        obtain ⟨x, hx, rfl⟩ := List.mem_map.mp (List.mem_of_getElem? hd)
        obtain ⟨c, _, rfl⟩ := List.mem_map.mp hx
        exact ⟨c, rfl⟩
      have := hc.few
      obtain ⟨z, hz, o, e⟩ := turn tb i ys c (by omega) (by omega)
      refine ⟨_, e, ys ++ [z], by rw [List.length_append, List.length_singleton]; omega, fun x hx => ?_, rfl⟩
      rcases List.mem_append.mp hx with h | h
      · exact hys x h
      · rw [List.mem_singleton.mp h]; exact hz)
    rw [Nat.zero_add, List.length_map, List.length_map] at hyl
    refine ⟨st (tb ++ [ys]) (some ⟨.int (i : Nat), .fz⟩) (some ⟨.lst (nats ys), .own⟩) none none, ?_, tb ++ [ys], by rw [List.length_append, List.length_singleton]; omega, fun r hr => ?_, rfl⟩
    · show runB W n body (st tb (some ⟨.int (i : Nat), .fz⟩) none none none) = _
      refine (runB_next (r' := st tb (some ⟨.int (i : Nat), .fz⟩) (some ⟨.lst (nats []), .own⟩) none none) ?_).trans ((runB_next (r' := st tb (some ⟨.int (i : Nat), .fz⟩) (some ⟨.lst (nats ys), .own⟩) none none) ?_).trans ?_)
      · simp [st, store, nats]
      · rw [runS_for, src]
        exact lp
      · have sz : (rowsD tb).length < sizeLine := by unfold rowsD; rw [List.length_map]; exact small1000 (by omega)
        have ea : rowsD (tb ++ [ys]) = rowsD tb ++ [.tup (nats ys)] := by unfold rowsD; simp
        have tp : semTuple (.lst (nats ys)) = some (.val (.tup (nats ys))) := rfl
        simp only [st, ea]
        simp [run_app, look, res, frz, isLst, sem1, tp, sz]
    · rcases List.mem_append.mp hr with h | h
      · exact htb r h
      · rw [List.mem_singleton.mp h]
        exact ⟨hyl, hys⟩)
  rw [Nat.zero_add, rangeD_len] at htl
  have hcl := hc.few
  have hcp := hc.pos
  let last : List Nat := List.replicate cs.length (N - 1)
  have el : semMul (.tup [.int ((N : Int) - 1)]) (.int (cs.length : Nat)) = some (.val (.tup (nats last))) := by
    show (if _ then _ else _) = _
    rw [if_pos ⟨by omega, by omega, Nat.le_of_ble_eq_true rfl, rfl⟩]
    have : (List.replicate ((cs.length : Nat) : Int).toNat [Dat.int ((N : Int) - 1)]).flatten = nats last := by
      rw [show ((cs.length : Nat) : Int).toNat = cs.length from by omega]
      simp only [last, nats, List.map_replicate]
      rw [show ((N - 1 : Nat) : Int) = (N : Int) - 1 from by omega]
      generalize cs.length = k
      induction k with
      | zero => rfl
      | succ k ih => rw [List.replicate_succ, List.flatten_cons, ih, List.replicate_succ]; rfl
    rw [this]
  refine ⟨⟨cs, tb ++ [last], [N - 2]⟩, r3, ?_, rfl, by simp, by simp; omega, fun r hr => ?_, by simp, h3⟩
  · have sb : semSub (.int (N : Nat)) (.int 2) = some (.val (.int ((N : Int) - 2))) := rfl
    have sb1 : semSub (.int (N : Nat)) (.int 1) = some (.val (.int ((N : Int) - 1))) := rfl
    refine runD_val (r := st (tb ++ [last]) none none none none) rfl ?_ rfl
    refine (runB_next (r' := [some ⟨r1, .io⟩, some ⟨tx cs, .fz⟩, some ⟨.str (sg a), .fz⟩, some ⟨.str (sg b), .fz⟩, some ⟨.int (N : Nat), .fz⟩, none, none, none, none, none, none]) ?_).trans ?_
    · simp [startR, d_law_far_machine, look, res, frz, lend, resAll, giveBack, hW.io, t1, sem2, semAdd, pre2, hN, store]
    refine (runB_next (r' := [some ⟨r3, .io⟩, some ⟨tx cs, .fz⟩, some ⟨.str (sg a), .fz⟩, some ⟨.str (sg b), .fz⟩, some ⟨.int (N : Nat), .fz⟩, some ⟨.lst [.int u, .int v], .own⟩, none, none, none, none, none]) ?_).trans ?_
    · simp [look, res, frz, lend, resAll, giveBack, hW.io, t2, t3, sem2, sb, pre2, store]
    refine (runB_next (r' := st [] none none none none) ?_).trans ?_
    · simp [st, rowsD, store]
    refine (runB_next (r' := st tb none none none none) ?_).trans ?_
    · have src : runI W (.rng1 (.op2 .sub (.var 4) (.int 1))) (st [] none none none none) = some (rangeD 0 (N - 1), st [] none none none none) := by
        have := small_line (n := N - 1) (by omega)
        have e : ((N : Int) - 1).toNat = N - 1 := by omega
        simp [st, runI_rng1, look, res, sem2, pre2, sb1, e]
        omega
      rw [runS_for, src]
      exact lp
    refine (runB_next (r' := st (tb ++ [last]) none none none none) ?_).trans ?_
    · have sz : (rowsD tb).length < sizeLine := by unfold rowsD; rw [List.length_map]; exact small1000 (by omega)
      have ea : rowsD (tb ++ [last]) = rowsD tb ++ [.tup (nats last)] := by unfold rowsD; simp
      have ln : semLen (tx cs) = some (.val (.int (cs.length : Nat))) := rfl
      simp only [st, ea]
      generalize tx cs = z at ln ⊢
      simp [run_app, look, res, frz, isLst, sem1, sem2, pre2, ln, sb1, el, sz]
    · refine runB_ret ?_
      have tp : semTuple (.lst (rowsD (tb ++ [last]))) = some (.val (.tup (rowsD (tb ++ [last])))) := rfl
      have e2 : nats [N - 2] = [.int ((N : Int) - 2)] := by unfold nats; simp; omega
      show runS W n _ _ = some (.ret (.val (.tup [tx cs, .tup (rowsD (tb ++ [last])), .tup (nats [N - 2])])) _)
      rw [e2]
      simp [st, look, res, frz, sem1, sem2, pre2, tp, sb]
  · have e : (tb ++ [last]).length = N := by simp; omega
    show r.length = _ ∧ ∀ x ∈ r, x < (tb ++ [last]).length
    rw [e]
    rcases List.mem_append.mp hr with h | h
    · exact htb r h
    · rw [List.mem_singleton.mp h]
      refine ⟨by simp [last], fun x hx => ?_⟩
      have := (List.mem_replicate.mp hx).2
      omega
end K

namespace K
open PySem PySem.Spec PyProof.Rows L2 Dl Dw Ds Dq
structure HasAll (W : Wd) : Prop where
  tk : HasTk W
  io1 : W.io "_law_draws" = some none
  run1 : ∀ ns : List Int, ns.length ≤ 63 → ∃ row, W.phi "_law_draws" [.lst (ns.map .int)] = some (.fresh row, .non) ∧ IsDr row
  io2 : W.io "_law_letters" = some (some 0)
  run2 : ∀ row : Dat, IsDr row → ∃ (cs : List Nat) (row' : _), W.phi "_law_letters" [row, .int 5] = some (.val (tx cs), row') ∧ DrL cs ∧ (cs.length : Int) ≤ 5 ∧ IsDr row'
  io3 : W.io "_law_machine" = some (some 0)
  run3 : ∀ (row : Dat) (cs : List Nat) (m : Int), IsDr row → DrL cs → 0 < m → m ≤ 14 → ∃ (M : Mc) (row' : _), W.phi "_law_machine" [row, tx cs, .int m] = some (.val M.d, row') ∧ M.cs = cs ∧ 0 < M.tb.length ∧ (M.tb.length : Int) ≤ m ∧ (∀ r ∈ M.tb, r.length = cs.length ∧ ∀ x ∈ r, x < M.tb.length) ∧ M.es.length ≤ M.tb.length ∧ (∀ x ∈ M.es, x < M.tb.length) ∧ IsDr row'
  io4 : W.io "_law_far_machine" = some (some 0)
  run4 : ∀ (row : Dat) (cs : List Nat) (a b : Nat), IsDr row → DrL cs → ∃ (M : Mc) (row' : _), W.phi "_law_far_machine" [row, tx cs, .str (sg a), .str (sg b)] = some (.val M.d, row') ∧ M.cs = cs ∧ 0 < M.tb.length ∧ M.tb.length ≤ 60 ∧ (∀ r ∈ M.tb, r.length = cs.length ∧ ∀ x ∈ r, x < M.tb.length) ∧ M.es.length ≤ 1 ∧ IsDr row'
  io5 : W.io "_law_first_with" = some none
  run5 : ∀ (M : Mc) (a b : Nat) (o : Option (List Nat)), McOk M → bfs M a b 300 0 [((0, false, false), [])] = some o → W.phi "_law_first_with" [M.d, .str (sg a), .str (sg b)] = some (.val (resD o), .non)
  io6 : W.io "with_both" = some none
  run6 : ∀ (M : Mc) (a b : Nat) (o : Option (List Nat)), McOk M → bfs M a b 300 0 [((0, false, false), [])] = some o → W.phi "with_both" [M.d, .str (sg a), .str (sg b)] = some (.val (resD o), .non)
theorem ne_res (o : Option (List Nat)) : semNe (resD o) (resD o) = some (.val (.bl false)) := by
  cases o with
  | none => rfl
  | some w =>
    show some (Out.val (.bl (!decide (_ = _)))) = _
    simp
theorem law_run (W : Wd) (hW : HasAll W) {ns : List Int} (hl : ns.length ≤ 63) : runD W 1000000 d_law [.lst (ns.map .int)] = some (.val (.bl true), .non) := by
  let s : Dat → Nat → Option Sl → Option Sl → Option Sl → Option Sl → Option Sl → Option Sl → Option Sl → Rho := fun row k o3 o4 o5 o6 o7 o8 o9 => [none, some ⟨row, .own⟩, some ⟨.int (k : Nat), .fz⟩, o3, o4, o5, o6, o7, o8, o9]
  let st : Dat → Nat → Rho := fun row k => s row k none none none none none none none
  let inner : Ss := (.cons (.ife (.or (.cmp .ne (.var 9) (.var 8)) (.cmp .ne (.op2 .is (.var 9) .non) (.op2 .is (.var 8) .non))) (.cons (.ret (.bl false)) .nil) .nil) .nil)
  let body : Ss := (.cons (.set 3 (.call "_law_letters" (.cons (.var 1) (.cons (.int 5) .nil))))
    (.cons (.ife (.cmp .eq (.op1 .len (.var 3)) (.int 1)) (.cons (.set 3 (.op2 .at (.lst (.cons (.str "ab") (.cons (.str "mz") .nil))) (.call "_law_take" (.cons (.var 1) (.cons (.int 2) .nil)))))
    .nil) .nil)
    (.cons (.set 4 (.call "_law_machine" (.cons (.var 1) (.cons (.var 3) (.cons (.op2 .at (.lst (.cons (.int 6) (.cons (.int 6) (.cons (.int 6) (.cons (.int 14) .nil))))) (.call "_law_take" (.cons (.var 1) (.cons (.int 4) .nil)))) .nil)))))
    (.cons (.set 5 (.call "_law_take" (.cons (.var 1) (.cons (.op1 .len (.var 3)) .nil))))
    (.cons (.set 6 (.op2 .at (.var 3) (.var 5)))
    (.cons (.set 7 (.op2 .at (.var 3) (.op2 .mod (.op2 .add (.op2 .add (.var 5) (.int 1)) (.call "_law_take" (.cons (.var 1) (.cons (.op2 .sub (.op1 .len (.var 3)) (.int 1)) .nil)))) (.op1 .len (.var 3)))))
    (.cons (.ife (.cmp .eq (.call "_law_take" (.cons (.var 1) (.cons (.int 3) .nil))) (.int 1)) (.cons (.set 4 (.call "_law_far_machine" (.cons (.var 1) (.cons (.var 3) (.cons (.var 6) (.cons (.var 7) .nil))))))
    .nil) .nil)
    (.cons (.set 8 (.call "_law_first_with" (.cons (.var 4) (.cons (.var 6) (.cons (.var 7) .nil)))))
    (.cons (.for_ (.name 9) (.seq (.tup (.cons (.call "with_both" (.cons (.var 4) (.cons (.var 6) (.cons (.var 7) .nil)))) (.cons (.call "with_both" (.cons (.var 4) (.cons (.var 7) (.cons (.var 6) .nil)))) .nil)))) inner [0, 3, 4, 5, 6, 7, 9])
    (.cons (.set 2 (.op2 .add (.var 2) (.int 1)))
    .nil))))))))))
  have turn : ∀ (row : Dat) (k : Nat), IsDr row → ∃ row' r, IsDr row' ∧ runB W 1000000 body (st row k) = some (.next r) ∧ wipeR r [0, 3, 4, 5, 6, 7, 8, 9] = st row' (k + 1) := by
    intro row k hr
    obtain ⟨cs0, r1, t1, d1, l1, h1⟩ := hW.run2 row hr
    obtain ⟨cs, r2, e2, d2, c2, c5, h2⟩ : ∃ (cs : List Nat) (r2 : Dat), runS W 1000000 (.ife (.cmp .eq (.op1 .len (.var 3)) (.int 1)) (.cons (.set 3 (.op2 .at (.lst (.cons (.str "ab") (.cons (.str "mz") .nil))) (.call "_law_take" (.cons (.var 1) (.cons (.int 2) .nil))))) .nil) .nil) (s r1 k (some ⟨tx cs0, .fz⟩) none none none none none none) = some (.next (s r2 k (some ⟨tx cs, .fz⟩) none none none none none none)) ∧ DrL cs ∧ 2 ≤ cs.length ∧ cs.length ≤ 5 ∧ IsDr r2 := by
      have ln : semLen (tx cs0) = some (.val (.int (cs0.length : Nat))) := rfl
      have eq : semEq (.int (cs0.length : Nat)) (.int 1) = some (.val (.bl (decide (((cs0.length : Nat) : Int) = 1)))) := rfl
      have tst : runT W (.cmp .eq (.op1 .len (.var 3)) (.int 1)) (s r1 k (some ⟨tx cs0, .fz⟩) none none none none none none) = some (decide (((cs0.length : Nat) : Int) = 1), s r1 k (some ⟨tx cs0, .fz⟩) none none none none none none) := by
        simp only [s]
        generalize tx cs0 = z at ln ⊢
        simp [look, res, sem1, sem2, ln, eq]
      by_cases hc : cs0.length = 1
      · obtain ⟨v, r2, t2, v0, v1, h2⟩ := hW.tk.run r1 2 h1 (by decide)
        obtain ⟨cs, ea, dc, cl⟩ : ∃ cs : List Nat, semAt (.lst [.str "ab", .str "mz"]) (.int v) = some (.val (tx cs)) ∧ DrL cs ∧ cs.length = 2 := by
          rcases (by omega : v = 0 ∨ v = 1) with rfl | rfl
          · exact ⟨[97, 98], rfl, ⟨by decide, by decide, by unfold Low; decide⟩, rfl⟩
          · exact ⟨[109, 122], rfl, ⟨by decide, by decide, by unfold Low; decide⟩, rfl⟩
        refine ⟨cs, r2, ?_, dc, by omega, by omega, h2⟩
        rw [runS_ife, tst, decide_eq_true (by omega)]
        show runB W 1000000 _ (s r1 k (some ⟨tx cs0, .fz⟩) none none none none none none) = _
        simp [s, look, res, frz, lend, resAll, giveBack, hW.tk.io, t2, sem2, pre2, ea, store]
      · refine ⟨cs0, r1, ?_, d1, by have := d1.pos; omega, by omega, h1⟩
        rw [runS_ife, tst, decide_eq_false (by omega)]
        simp
    obtain ⟨v, r3, t3, v0, v1, h3⟩ := hW.tk.run r2 4 h2 (by decide)
    obtain ⟨m, em, m0, m1⟩ : ∃ m : Int, semAt (.lst [.int 6, .int 6, .int 6, .int 14]) (.int v) = some (.val (.int m)) ∧ 0 < m ∧ m ≤ 14 := by
      rcases (by omega : v = 0 ∨ v = 1 ∨ v = 2 ∨ v = 3) with rfl | rfl | rfl | rfl
      · exact ⟨6, rfl, by decide, by decide⟩
      · exact ⟨6, rfl, by decide, by decide⟩
      · exact ⟨6, rfl, by decide, by decide⟩
      · exact ⟨14, rfl, by decide, by decide⟩
    obtain ⟨M0, r4, t4, mc, mt, mm, mr, me, _, h4⟩ := hW.run3 r3 cs m h3 d2 m0 m1
    obtain ⟨p, r5, t5, p0, p1, h5⟩ := hW.tk.run r4 cs.length h4 (by omega)
    obtain ⟨q, r6, t6, q0, q1, h6⟩ := hW.tk.run r5 ((cs.length : Int) - 1) h5 (by omega)
    have ln : semLen (tx cs) = some (.val (.int (cs.length : Nat))) := rfl
    have at_ : ∀ p : Int, 0 ≤ p → p < cs.length → ∃ c, semAt (tx cs) (.int p) = some (.val (.str (sg c))) := by
      intro p p0 p1
      have := at_tx (w := cs) (p := p.toNat) (by omega)
      rw [show ((p.toNat : Nat) : Int) = p from by omega] at this
      exact ⟨_, this⟩
    obtain ⟨a, ea⟩ := at_ p p0 p1
    have j0 : 0 ≤ (p + 1 + q) % (cs.length : Int) := Int.emod_nonneg _ (by omega)
    have j1 : (p + 1 + q) % (cs.length : Int) < cs.length := Int.emod_lt_of_pos _ (by omega)
    obtain ⟨b, eb⟩ := at_ _ j0 j1
    have md := mod_eq (i := p + 1 + q) (j := (cs.length : Int)) (by omega)
    have ad1 : semAdd (.int p) (.int 1) = some (.val (.int (p + 1))) := rfl
    have ad2 : semAdd (.int (p + 1)) (.int q) = some (.val (.int (p + 1 + q))) := rfl
    have sb : semSub (.int (cs.length : Nat)) (.int 1) = some (.val (.int ((cs.length : Int) - 1))) := rfl
    obtain ⟨g, r7, t7, g0, g1, h7⟩ := hW.tk.run r6 3 h6 (by decide)
    let c3 : Option Sl := some ⟨tx cs, .fz⟩
    let c6 : Option Sl := some ⟨.str (sg a), .fz⟩
    let c7 : Option Sl := some ⟨.str (sg b), .fz⟩
    let k5 : Option Sl := some ⟨.int p, .fz⟩
    obtain ⟨M, r8, e8, ok, h8⟩ : ∃ (M : Mc) (r8 : Dat), runS W 1000000 (.ife (.cmp .eq (.call "_law_take" (.cons (.var 1) (.cons (.int 3) .nil))) (.int 1)) (.cons (.set 4 (.call "_law_far_machine" (.cons (.var 1) (.cons (.var 3) (.cons (.var 6) (.cons (.var 7) .nil)))))) .nil) .nil) (s r6 k c3 (some ⟨M0.d, .fz⟩) k5 c6 c7 none none) = some (.next (s r8 k c3 (some ⟨M.d, .fz⟩) k5 c6 c7 none none)) ∧ McOk M ∧ IsDr r8 := by
      have eq : semEq (.int g) (.int 1) = some (.val (.bl (decide (g = 1)))) := rfl
      have tst : runT W (.cmp .eq (.call "_law_take" (.cons (.var 1) (.cons (.int 3) .nil))) (.int 1)) (s r6 k c3 (some ⟨M0.d, .fz⟩) k5 c6 c7 none none) = some (decide (g = 1), s r7 k c3 (some ⟨M0.d, .fz⟩) k5 c6 c7 none none) := by
        simp [s, look, res, frz, lend, resAll, giveBack, hW.tk.io, t7, sem2, eq]
      by_cases hg : g = 1
      · obtain ⟨M, r8, t8, f1, f2, f3, f4, f5, h8⟩ := hW.run4 r7 cs a b h7 d2
        refine ⟨M, r8, ?_, ⟨by rw [f1]; exact d2.pos, by rw [f1]; exact c5, f2, f3, by rw [f1]; exact f4, by omega, by rw [f1]; exact d2.low⟩, h8⟩
        rw [runS_ife, tst, decide_eq_true hg]
        show runB W 1000000 _ (s r7 k c3 (some ⟨M0.d, .fz⟩) k5 c6 c7 none none) = _
        simp [s, c3, c6, c7, look, res, frz, lend, resAll, giveBack, hW.io4, t8, store]
      · refine ⟨M0, r7, ?_, ⟨by rw [mc]; exact d2.pos, by rw [mc]; exact c5, mt, by omega, by rw [mc]; exact mr, by omega, by rw [mc]; exact d2.low⟩, h7⟩
        rw [runS_ife, tst, decide_eq_false hg]
        simp
    obtain ⟨o, ho⟩ := bfs_ends ok (a := a) (b := b) 300 0 [((0, false, false), [])] (good0 ok) (Nat.zero_le _) (by have := ok.t60; omega)
    have ho' : bfs M b a 300 0 [((0, false, false), [])] = some o := (bfs_sw M a b 300 0 [((0, false, false), [])]).trans ho
    have w1 := hW.run5 M a b o ok ho
    have w2 := hW.run6 M a b o ok ho
    have w3 := hW.run6 M b a o ok ho'
    have c4 : Option Sl := some ⟨M.d, .fz⟩
    let sl : Rho := s r8 k none none none none none (some ⟨resD o, .fz⟩) none
    refine ⟨r8, sl.set 2 (some ⟨.int ((k : Int) + 1), .fz⟩), h8, ?_, rfl⟩
    refine (runB_next (r' := s r1 k (some ⟨tx cs0, .fz⟩) none none none none none none) ?_).trans ((runB_next e2).trans ?_)
    · simp [st, s, look, res, frz, lend, resAll, giveBack, hW.io2, t1, store]
    refine (runB_next (r' := s r4 k c3 (some ⟨M0.d, .fz⟩) none none none none none) ?_).trans ?_
    · simp [s, c3, look, res, frz, lend, resAll, giveBack, hW.tk.io, hW.io3, t3, t4, sem2, pre2, em, store]
    refine (runB_next (r' := s r5 k c3 (some ⟨M0.d, .fz⟩) k5 none none none none) ?_).trans ?_
    · simp only [s, c3, k5]
      generalize tx cs = z at ln ⊢
      simp [look, res, frz, lend, resAll, giveBack, hW.tk.io, t5, sem1, ln, store]
    refine (runB_next (r' := s r5 k c3 (some ⟨M0.d, .fz⟩) k5 c6 none none none) ?_).trans ?_
    · simp only [s, c3, k5, c6]
      generalize tx cs = z at ea ⊢
      simp [look, res, sem2, pre2, ea, store]
    refine (runB_next (r' := s r6 k c3 (some ⟨M0.d, .fz⟩) k5 c6 c7 none none) ?_).trans ?_
    · simp only [s, c3, k5, c6, c7]
      generalize tx cs = z at eb ln ⊢
      simp [look, res, frz, lend, resAll, giveBack, hW.tk.io, t6, sem1, sem2, pre2, ln, sb, ad1, ad2, md, eb, store]
    refine (runB_next e8).trans ?_
    refine (runB_next (r' := s r8 k c3 (some ⟨M.d, .fz⟩) k5 c6 c7 (some ⟨resD o, .fz⟩) none) ?_).trans ?_
    · simp [s, c6, c7, look, res, frz, resAll, giveBack, hW.io5, w1, store]
    refine (runB_next (r' := sl) ?_).trans ?_
    · have src : runI W (.seq (.tup (.cons (.call "with_both" (.cons (.var 4) (.cons (.var 6) (.cons (.var 7) .nil)))) (.cons (.call "with_both" (.cons (.var 4) (.cons (.var 7) (.cons (.var 6) .nil)))) .nil)))) (s r8 k c3 (some ⟨M.d, .fz⟩) k5 c6 c7 (some ⟨resD o, .fz⟩) none) = some ([resD o, resD o], s r8 k c3 (some ⟨M.d, .fz⟩) k5 c6 c7 (some ⟨resD o, .fz⟩) none) := by
        simp [s, c6, c7, look, res, frz, resAll, giveBack, hW.io6, w2, w3, items]
      have n1 := ne_res o
      obtain ⟨x, n2⟩ : ∃ x, semIs (resD o) .non = some (.val (.bl x)) := by cases o <;> exact ⟨_, rfl⟩
      have n3 : semNe (.bl x) (.bl x) = some (.val (.bl false)) := by cases x <;> rfl
      obtain ⟨r2, lp2, rfl⟩ := forD_inv (f := stepF W 1000000 (.name 9) inner) (wp := [0, 3, 4, 5, 6, 7, 9]) (fun _ r => r = sl) [resD o, resD o] [] _ rfl (by
        rintro pre d post r _ hd rfl
        have hd : d = resD o := by simpa using hd
        subst hd
        refine ⟨sl.set 9 (some ⟨resD o, .fz⟩), ?_, rfl⟩
        simp only [inner, sl, s]
        generalize resD o = z at n1 n2 ⊢
        simp [stepF, bindT, look, res, sem2, pre2, n1, n2, n3])
      rw [runS_for, src]
      exact lp2
    · have e1 : semAdd (.int (k : Nat)) (.int 1) = some (.val (.int ((k : Int) + 1))) := rfl
      simp [sl, s, look, res, sem2, pre2, e1, store]
  obtain ⟨row0, t0, h0⟩ := hW.run1 ns hl
  obtain ⟨r', lp, row', k', rfl⟩ := whl_dec (t := runT W (.or (.cmp .lt (.var 2) (.int 1)) (.and (.cmp .ne (.var 1) (.lst .nil)) (.cmp .lt (.var 2) (.int 8))))) (body := runB W 1000000 body) (wp := [0, 3, 4, 5, 6, 7, 8, 9]) (fun m r => ∃ row k, IsDr row ∧ k + m = 8 ∧ r = st row k) (fun r => ∃ row k, r = st row k) (by
    rintro m r ⟨row, k, hr, hk, rfl⟩
    obtain ⟨xs, rfl, hx⟩ := hr
    have eq := eqD_ints xs []
    have l1 : semLt (.int (k : Nat)) (.int 1) = some (.val (.bl (decide (k < 1)))) := by
      show some (Out.val (.bl (decide (((k : Nat) : Int) < 1)))) = _
      rw [show decide (((k : Nat) : Int) < 1) = decide (k < 1) from by congr 1; simp; omega]
    have l8 : semLt (.int (k : Nat)) (.int 8) = some (.val (.bl (decide (k < 8)))) := by
      show some (Out.val (.bl (decide (((k : Nat) : Int) < 8)))) = _
      rw [show decide (((k : Nat) : Int) < 8) = decide (k < 8) from by congr 1; simp; omega]
    have ne : semNe (.lst (xs.map .int)) (.lst []) = some (.val (.bl (!decide (xs = [])))) := by
      show (eqD _ _).map _ = _
      rw [show eqD (.lst (xs.map .int)) (.lst []) = some (decide (xs = [])) from eq]
      rfl
    refine ⟨decide (k < 1) || (!decide (xs = []) && decide (k < 8)), st (.lst (xs.map .int)) k, ?_, fun _ => ⟨_, _, rfl⟩, fun hb => ?_⟩
    · simp only [st, s]
      generalize xs.map Dat.int = ys at ne ⊢
      generalize decide (k < 1) = x at l1 ⊢
      generalize decide (k < 8) = y at l8 ⊢
      generalize decide (xs = []) = z at ne ⊢
      cases x <;> cases z <;> simp [look, res, sem2, l1, l8, ne]
    · have hk8 : k < 8 := by
        simp only [Bool.or_eq_true, Bool.and_eq_true, decide_eq_true_eq] at hb
        omega
      obtain ⟨row', r, h', e1, e2⟩ := turn (.lst (xs.map .int)) k ⟨xs, rfl, hx⟩
      exact ⟨m - 1, r, by omega, e1, row', k + 1, h', by omega, e2⟩) 8 1000000 (st row0 0) (by decide) ⟨row0, 0, h0, rfl, rfl⟩
  refine runD_val (r := st row' k') rfl ?_ rfl
  refine (runB_next (r' := [some ⟨.lst (ns.map .int), .fz⟩, some ⟨row0, .own⟩, none, none, none, none, none, none, none, none]) ?_).trans ?_
  · simp [startR, d_law, look, res, frz, resAll, giveBack, hW.io1, t0, store]
  refine (runB_next (r' := [some ⟨.lst (ns.map .int), .fz⟩, some ⟨row0, .own⟩, some ⟨.int 0, .fz⟩, none, none, none, none, none, none, none]) ?_).trans ?_
  · simp [store]
  refine (runB_next (r' := st row' k') ?_).trans ?_
  · rw [runS_whl]
    exact lp
  · simp
theorem p_first (ds : List Dat) : (Phi TT 1000000 29).phi "_law_first_with" ds = runD (Phi TT 1000000 28) 1000000 d_law_first_with ds := rfl
theorem p_both (ds : List Dat) : (Phi TT 1000000 29).phi "with_both" ds = runD (Phi TT 1000000 28) 1000000 d_with_both ds := rfl
theorem law_true (ns : List Int) (h : ns.length ≤ 63) : (Phi TT 1000000 30).phi "law" [.lst (ns.map .int)] = some (.val (.bl true), .non) := by
  have tk : ∀ k, HasTk (Phi TT 1000000 (k + 1)) := fun k => ⟨rfl, fun row m h0 h1 => take_run (Phi TT 1000000 k) 1000000 h0 h1⟩
  exact law_run (Phi TT 1000000 29) {
    tk := tk 28
    io1 := rfl
    run1 := fun ns h => draws_run (Phi TT 1000000 28) h
    io2 := rfl
    run2 := fun row hr => letters_run 1000000 (tk 27) hr (by decide) (by decide)
    io3 := rfl
    run3 := fun row cs m hr hc m0 m1 => machine_run 1000000 (tk 27) hr hc m0 (by omega)
    io4 := rfl
    run4 := fun row cs a b hr hc => far_run 1000000 (tk 27) hr hc a b
    io5 := rfl
    run5 := fun M a b o ok ho => by
      rw [p_first]
      exact first_run (Phi TT 1000000 28) ok a b ho
    io6 := rfl
    run6 := fun M a b o ok ho => by
      rw [p_both]
      exact both_run (Phi TT 1000000 28) ok a b ho } h
end K

namespace K
open PySem PySem.Spec PyProof.Rows L2 Dl
abbrev fuel : Nat := 1000000
theorem fin {w : World} {K : PySem.W.Frag} {h : Heap} {mg : Str → Option Value} {fa : Addr} (X : K.In h) (G : h.Ns mainGlobals mg) (hfa : mg "law" = some (.ref fa)) {n k : Nat}
    {f0 : Addr} {od0 an0 : Option Addr} {sl0 : Array (Option Value)} {oc0 kV0 dc0 pm0 cd0 ct0 : Value}
    {f1 : Addr} {od1 an1 : Option Addr} {sl1 : Array (Option Value)} {oc1 kV1 dc1 pm1 cd1 ct1 : Value}
    {f2 : Addr} {od2 an2 : Option Addr} {sl2 : Array (Option Value)} {oc2 kV2 dc2 pm2 cd2 ct2 : Value}
    {f3 : Addr} {od3 an3 : Option Addr} {sl3 : Array (Option Value)} {oc3 kV3 dc3 pm3 cd3 ct3 : Value}
    {f4 : Addr} {od4 an4 : Option Addr} {sl4 : Array (Option Value)} {oc4 kV4 dc4 pm4 cd4 ct4 : Value}
    {f5 : Addr} {od5 an5 : Option Addr} {sl5 : Array (Option Value)} {oc5 kV5 dc5 pm5 cd5 ct5 : Value}
    {f6 : Addr} {od6 an6 : Option Addr} {sl6 : Array (Option Value)} {oc6 kV6 dc6 pm6 cd6 ct6 : Value}
    {f7 : Addr} {od7 an7 : Option Addr} {sl7 : Array (Option Value)} {oc7 kV7 dc7 pm7 cd7 ct7 : Value}
    {f8 : Addr} {od8 an8 : Option Addr} {sl8 : Array (Option Value)} {oc8 kV8 dc8 pm8 cd8 ct8 : Value}
    (a0 : PySem.W.nsIn K mainGlobals "with_both" = some (some (.ref f0))) (l0 : K.lookup f0 = some ⟨oc0, od0, .func (PySem.W.fnOf "with_both" "with_both" (defArgs s_with_both) (defBody s_with_both) (defScope s_with_both) .none kV0 dc0 pm0 an0 cd0 ct0), sl0⟩) (c0 : PySem.W.codeIn K cd0 "with_both" = true) (k0 : PySem.W.keepIn K (.ref f0) = true)
    (a1 : PySem.W.nsIn K mainGlobals "_law_draws" = some (some (.ref f1))) (l1 : K.lookup f1 = some ⟨oc1, od1, .func (PySem.W.fnOf "_law_draws" "_law_draws" (defArgs s_law_draws) (defBody s_law_draws) (defScope s_law_draws) .none kV1 dc1 pm1 an1 cd1 ct1), sl1⟩) (c1 : PySem.W.codeIn K cd1 "_law_draws" = true) (k1 : PySem.W.keepIn K (.ref f1) = true)
    (a2 : PySem.W.nsIn K mainGlobals "_law_take" = some (some (.ref f2))) (l2 : K.lookup f2 = some ⟨oc2, od2, .func (PySem.W.fnOf "_law_take" "_law_take" (defArgs s_law_take) (defBody s_law_take) (defScope s_law_take) .none kV2 dc2 pm2 an2 cd2 ct2), sl2⟩) (c2 : PySem.W.codeIn K cd2 "_law_take" = true) (k2 : PySem.W.keepIn K (.ref f2) = true)
    (a3 : PySem.W.nsIn K mainGlobals "_law_letters" = some (some (.ref f3))) (l3 : K.lookup f3 = some ⟨oc3, od3, .func (PySem.W.fnOf "_law_letters" "_law_letters" (defArgs s_law_letters) (defBody s_law_letters) (defScope s_law_letters) .none kV3 dc3 pm3 an3 cd3 ct3), sl3⟩) (c3 : PySem.W.codeIn K cd3 "_law_letters" = true) (k3 : PySem.W.keepIn K (.ref f3) = true)
    (a4 : PySem.W.nsIn K mainGlobals "_law_machine" = some (some (.ref f4))) (l4 : K.lookup f4 = some ⟨oc4, od4, .func (PySem.W.fnOf "_law_machine" "_law_machine" (defArgs s_law_machine) (defBody s_law_machine) (defScope s_law_machine) .none kV4 dc4 pm4 an4 cd4 ct4), sl4⟩) (c4 : PySem.W.codeIn K cd4 "_law_machine" = true) (k4 : PySem.W.keepIn K (.ref f4) = true)
    (a5 : PySem.W.nsIn K mainGlobals "_law_has" = some (some (.ref f5))) (l5 : K.lookup f5 = some ⟨oc5, od5, .func (PySem.W.fnOf "_law_has" "_law_has" (defArgs s_law_has) (defBody s_law_has) (defScope s_law_has) .none kV5 dc5 pm5 an5 cd5 ct5), sl5⟩) (c5 : PySem.W.codeIn K cd5 "_law_has" = true) (k5 : PySem.W.keepIn K (.ref f5) = true)
    (a6 : PySem.W.nsIn K mainGlobals "_law_first_with" = some (some (.ref f6))) (l6 : K.lookup f6 = some ⟨oc6, od6, .func (PySem.W.fnOf "_law_first_with" "_law_first_with" (defArgs s_law_first_with) (defBody s_law_first_with) (defScope s_law_first_with) .none kV6 dc6 pm6 an6 cd6 ct6), sl6⟩) (c6 : PySem.W.codeIn K cd6 "_law_first_with" = true) (k6 : PySem.W.keepIn K (.ref f6) = true)
    (a7 : PySem.W.nsIn K mainGlobals "_law_far_machine" = some (some (.ref f7))) (l7 : K.lookup f7 = some ⟨oc7, od7, .func (PySem.W.fnOf "_law_far_machine" "_law_far_machine" (defArgs s_law_far_machine) (defBody s_law_far_machine) (defScope s_law_far_machine) .none kV7 dc7 pm7 an7 cd7 ct7), sl7⟩) (c7 : PySem.W.codeIn K cd7 "_law_far_machine" = true) (k7 : PySem.W.keepIn K (.ref f7) = true)
    (a8 : PySem.W.nsIn K mainGlobals "law" = some (some (.ref f8))) (l8 : K.lookup f8 = some ⟨oc8, od8, .func (PySem.W.fnOf "law" "law" (defArgs s_law) (defBody s_law) (defScope s_law) .none kV8 dc8 pm8 an8 cd8 ct8), sl8⟩) (c8 : PySem.W.codeIn K cd8 "law" = true) (k8 : PySem.W.keepIn K (.ref f8) = true)
    (z0 : PySem.W.nsIn K mainGlobals "len" = some none)
    (z1 : PySem.W.nsIn K mainGlobals "int" = some none)
    (z2 : PySem.W.nsIn K mainGlobals "list" = some none)
    (z3 : PySem.W.nsIn K mainGlobals "tuple" = some none)
    (z4 : PySem.W.nsIn K mainGlobals "sorted" = some none)
    (z5 : PySem.W.nsIn K mainGlobals "isinstance" = some none)
    (z6 : PySem.W.nsIn K mainGlobals "range" = some none)
    (z7 : PySem.W.nsIn K mainGlobals "bool" = some none)
    (z8 : PySem.W.nsIn K mainGlobals "str" = some none)
    (z9 : PySem.W.nsIn K mainGlobals "zip" = some none)
    (z10 : PySem.W.nsIn K mainGlobals "enumerate" = some none)
    (z11 : PySem.W.nsIn K mainGlobals "set" = some none)
    (z12 : PySem.W.nsIn K mainGlobals "min" = some none)
    (z13 : PySem.W.nsIn K mainGlobals "max" = some none)
    (z14 : PySem.W.nsIn K mainGlobals "sum" = some none)
    (z15 : PySem.W.nsIn K mainGlobals "abs" = some none)
    (z16 : PySem.W.nsIn K mainGlobals "dict" = some none)
    (z17 : PySem.W.nsIn K mainGlobals "all" = some none)
    (z18 : PySem.W.nsIn K mainGlobals "reversed" = some none)
    (z19 : PySem.W.nsIn K mainGlobals "repr" = some none)
    : ∃ fd : FuncData, (∀ (s : Shared) (v : Value), BindsTo s fd ⟨[v], []⟩ [("script", v)]) ∧ ∀ base : Heap, K.In base → base.Ns mainGlobals mg → FnOk PySem.Challenge.pw_likehands_k78_words_with_both w K mg base CX0 (k + 1) fa fd ["script"] (spD ⟨K, w⟩ none 1 ((Phi TT n (k + 1)).phi "law")) := by
  have bi : ∀ x ∈ bnames, mg x = none := by
    intro x hx
    simp only [bnames, List.mem_cons, List.not_mem_nil, or_false] at hx
    rcases hx with rfl | rfl | rfl | rfl | rfl | rfl | rfl | rfl | rfl | rfl | rfl | rfl | rfl | rfl | rfl | rfl | rfl | rfl | rfl | rfl
    · exact PySem.W.mg_none_of X G z0
    · exact PySem.W.mg_none_of X G z1
    · exact PySem.W.mg_none_of X G z2
    · exact PySem.W.mg_none_of X G z3
    · exact PySem.W.mg_none_of X G z4
    · exact PySem.W.mg_none_of X G z5
    · exact PySem.W.mg_none_of X G z6
    · exact PySem.W.mg_none_of X G z7
    · exact PySem.W.mg_none_of X G z8
    · exact PySem.W.mg_none_of X G z9
    · exact PySem.W.mg_none_of X G z10
    · exact PySem.W.mg_none_of X G z11
    · exact PySem.W.mg_none_of X G z12
    · exact PySem.W.mg_none_of X G z13
    · exact PySem.W.mg_none_of X G z14
    · exact PySem.W.mg_none_of X G z15
    · exact PySem.W.mg_none_of X G z16
    · exact PySem.W.mg_none_of X G z17
    · exact PySem.W.mg_none_of X G z18
    · exact PySem.W.mg_none_of X G z19
  have da : ∀ f D, TT.lookup f = some D → DefAt PySem.Challenge.pw_likehands_k78_words_with_both K mg TT f D := by
    intro f D h
    unfold TT at h
    rw [List.lookup_cons] at h
    split at h
    · rename_i e
      cases h
      cases eq_of_beq e
      exact at_mk X G sc_with_both (by decide) ck_with_both (fun _ _ _ _ _ _ us hl => match us, hl with | [_, _, _], _ => rfl) a0 l0 c0 k0
    rw [List.lookup_cons] at h
    split at h
    · rename_i e
      cases h
      cases eq_of_beq e
      exact at_mk X G sc_law_draws (by decide) ck_law_draws (fun _ _ _ _ _ _ us hl => match us, hl with | [_], _ => rfl) a1 l1 c1 k1
    rw [List.lookup_cons] at h
    split at h
    · rename_i e
      cases h
      cases eq_of_beq e
      exact at_mk X G sc_law_take (by decide) ck_law_take (fun _ _ _ _ _ _ us hl => match us, hl with | [_, _], _ => rfl) a2 l2 c2 k2
    rw [List.lookup_cons] at h
    split at h
    · rename_i e
      cases h
      cases eq_of_beq e
      exact at_mk X G sc_law_letters (by decide) ck_law_letters (fun _ _ _ _ _ _ us hl => match us, hl with | [_, _], _ => rfl) a3 l3 c3 k3
    rw [List.lookup_cons] at h
    split at h
    · rename_i e
      cases h
      cases eq_of_beq e
      exact at_mk X G sc_law_machine (by decide) ck_law_machine (fun _ _ _ _ _ _ us hl => match us, hl with | [_, _, _], _ => rfl) a4 l4 c4 k4
    rw [List.lookup_cons] at h
    split at h
    · rename_i e
      cases h
      cases eq_of_beq e
      exact at_mk X G sc_law_has (by decide) ck_law_has (fun _ _ _ _ _ _ us hl => match us, hl with | [_, _], _ => rfl) a5 l5 c5 k5
    rw [List.lookup_cons] at h
    split at h
    · rename_i e
      cases h
      cases eq_of_beq e
      exact at_mk X G sc_law_first_with (by decide) ck_law_first_with (fun _ _ _ _ _ _ us hl => match us, hl with | [_, _, _], _ => rfl) a6 l6 c6 k6
    rw [List.lookup_cons] at h
    split at h
    · rename_i e
      cases h
      cases eq_of_beq e
      exact at_mk X G sc_law_far_machine (by decide) ck_law_far_machine (fun _ _ _ _ _ _ us hl => match us, hl with | [_, _, _, _], _ => rfl) a7 l7 c7 k7
    rw [List.lookup_cons] at h
    split at h
    · rename_i e
      cases h
      cases eq_of_beq e
      exact at_mk X G sc_law (by decide) ck_law (fun _ _ _ _ _ _ us hl => match us, hl with | [_], _ => rfl) a8 l8 c8 k8
    cases h
  exact law_fin X G hfa (n := n) (k := k) sc_law (by decide) ck_law rfl rfl rfl rfl (fun _ _ _ _ _ _ us hl => match us, hl with | [_], _ => rfl) a8 l8 c8 k8 bi da
end K
open PySem PySem.W PyProof.Rows
set_option maxHeartbeats 0 in
theorem PySem.Challenge.cw_likehands_k78_words_with_both_holds : PySem.Challenge.rw_likehands_k78_words_with_both.Holds := by
  w_on; o_law; k_head; (case hw => w_witness2)
  k_fill
  refine L2.walk_of (l := PySem.Challenge.rw_likehands_k78_words_with_both) (n := 63) (k := 30) (x := "script") (CX := fun _ => L2.CX0) (sp := fun w => Dl.spD ⟨_, w⟩ none 1 ((Dl.Phi K.TT K.fuel 30).phi "law")) rfl (by decide) rfl ⟨rfl, by decide, by decide⟩ (fun w h Y => PySem.W.kIn_of Y) ?F (fun _ _ a ns hl _ hS => Dl.law_sp hS hl (K.law_true ns hl)) (fun _ _ _ _ _ h => h)
  case F =>
    intro w mg fa h KX G hmg
    refine' K.fin (n := K.fuel) (k := 29) KX G hmg ?a0 ?l0 ?c0 ?k0 ?a1 ?l1 ?c1 ?k1 ?a2 ?l2 ?c2 ?k2 ?a3 ?l3 ?c3 ?k3 ?a4 ?l4 ?c4 ?k4 ?a5 ?l5 ?c5 ?k5 ?a6 ?l6 ?c6 ?k6 ?a7 ?l7 ?c7 ?k7 ?a8 ?l8 ?c8 ?k8 ?z0 ?z1 ?z2 ?z3 ?z4 ?z5 ?z6 ?z7 ?z8 ?z9 ?z10 ?z11 ?z12 ?z13 ?z14 ?z15 ?z16 ?z17 ?z18 ?z19
    (case a0 => k_is); (case l0 => k_is); (case c0 => k_is); (case k0 => k_is); (case a1 => k_is); (case l1 => k_is); (case c1 => k_is); (case k1 => k_is); (case a2 => k_is); (case l2 => k_is); (case c2 => k_is); (case k2 => k_is); (case a3 => k_is); (case l3 => k_is); (case c3 => k_is); (case k3 => k_is); (case a4 => k_is); (case l4 => k_is); (case c4 => k_is); (case k4 => k_is); (case a5 => k_is); (case l5 => k_is); (case c5 => k_is); (case k5 => k_is); (case a6 => k_is); (case l6 => k_is); (case c6 => k_is); (case k6 => k_is); (case a7 => k_is); (case l7 => k_is); (case c7 => k_is); (case k7 => k_is); (case a8 => k_is); (case l8 => k_is); (case c8 => k_is); (case k8 => k_is); (case z0 => k_is); (case z1 => k_is); (case z2 => k_is); (case z3 => k_is); (case z4 => k_is); (case z5 => k_is); (case z6 => k_is); (case z7 => k_is); (case z8 => k_is); (case z9 => k_is); (case z10 => k_is); (case z11 => k_is); (case z12 => k_is); (case z13 => k_is); (case z14 => k_is); (case z15 => k_is); (case z16 => k_is); (case z17 => k_is); (case z18 => k_is); (case z19 => k_is)

